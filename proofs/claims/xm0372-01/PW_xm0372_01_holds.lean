import PyProof.Rows.All
import Wide.All
import OpenK.AllK
import Wide.FinOn
import Lean
import PySem.Challenge.RW_xm0372_01
set_option Elab.async false
set_option linter.all false

section
set_option autoImplicit false
namespace Mine
open PySem

inductive V where
  | nul
  | bool (b : Bool)
  | int (i : Int)
  | seq (tup : Bool) (xs : List V)
  | rng (lo hi : Int)
  | ref (i : Nat)

inductive K where
  | i (n : Int)
  | t (ns : List Int)
  deriving DecidableEq

inductive MO where
  | list (xs : List V)
  | dict (es : List (K × V))
  | ns (es : List (Nat × V))
  | inst (d : Nat)

noncomputable abbrev St := List MO
noncomputable abbrev Rho := Nat → Option V

noncomputable def upd (ρ : Rho) (x : Nat) (v : V) : Rho := fun y => bif Nat.beq y x then some v else ρ y

noncomputable def LIM : Nat := 100000

inductive BO where | add | sub | mul | fdiv | mod
  deriving DecidableEq
inductive CO where | eq | ne | lt | le | gt | ge | isin | notin
  deriving DecidableEq
inductive Prim where | len | range1 | range2 | isInt | isBool | isSeq | toList | toTuple | max | min | abs | intOf | sum | dictCopy
  deriving DecidableEq

noncomputable def word (a : Int) : Bool := decide (-(2 ^ 64) < a) && decide (a < 2 ^ 64)

noncomputable def rep : Nat → List V → List V
  | 0, _ => []
  | n + 1, xs => xs ++ rep n xs

noncomputable def K.toV : K → V
  | .i n => .int n
  | .t ns => .seq true (ns.map .int)
noncomputable def K.isI : K → Bool
  | .i _ => true
  | .t _ => false
noncomputable def look (k : K) : List (K × V) → Option V
  | [] => none
  | (j, v) :: r => if j = k then some v else look k r
noncomputable def put (k : K) (v : V) : List (K × V) → List (K × V)
  | [] => [(k, v)]
  | (j, u) :: r => if j = k then (j, v) :: r else (j, u) :: put k v r

noncomputable def idxOf (n : Nat) (i : Int) : Option Nat :=
  if 0 ≤ i ∧ i < n then some i.toNat else if -(n : Int) ≤ i ∧ i < 0 then some (i + n).toNat else none

noncomputable def sameKind (k : K) (es : List (K × V)) : Bool := es.all fun e => e.1.isI == k.isI

noncomputable def clampLo (n : Nat) (i : Int) : Nat := if i < 0 then (i + n).toNat else min i.toNat n
noncomputable def small (n : Int) : Bool := decide (-(2 ^ 40) < n) && decide (n < 2 ^ 40)

noncomputable def intRange (lo : Int) : Nat → List V
  | 0 => []
  | n + 1 => .int lo :: intRange (lo + 1) n

noncomputable def tHash (ns : List Int) : Int := reduceHash (Builtin.Tuple.tupleHashOf (ns.map hashInt))
noncomputable def hashes : List (K × V) → List Int
  | [] => []
  | (.t ns, _) :: r => tHash ns :: hashes r
  | (.i _, _) :: r => hashes r

mutual
inductive T where
  | var (x : Nat)
  | lit (v : V)
  | bin (o : BO) (a b : T)
  | neg (a : T)
  | not (a : T)
  | and (a b : T)
  | or (a b : T)
  | cmp (o : CO) (a b : T)
  | chain (o p : CO) (a b c : T)
  | isNone (a : T) (pos : Bool)
  | ite (c t e : T)
  | seq (tup mt : Bool) (es : Ts)
  | idx (a i : T)
  | slice (a lo hi : T)
  | call (f : Nat) (es : Ts)
  | meth (f : Nat) (o : T) (es : Ts)
  | new
  | prim (p : Prim) (mt : Bool) (es : Ts)
  | append (o x : T)
  | get (o k d : T)
  | attr (o : T) (k : Nat)
  | comp (mt : Bool) (x : Nat) (it elt cond : T)
  | compD (x : Nat) (it cond : T)
  | emptyDict
  | repM (a b : T)
inductive Ts where
  | nil
  | cons (a : T) (r : Ts)
end

mutual
inductive TS where
  | assign (x : Nat) (e : T)
  | unpack (xs : List Nat) (e : T)
  | pairIdx (o₁ i₁ o₂ i₂ a b : T)
  | setIdx (o i e : T)
  | setAttr (o : T) (k : Nat) (e : T)
  | augName (x : Nat) (op : BO) (e : T)
  | augAttr (o : T) (k : Nat) (op : BO) (e : T)
  | forin (xs : List Nat) (it : T) (body : TSs)
  | ite (c : T) (a b : TSs)
  | ret (e : T)
  | expr (e : T)
  | brk
  | fail
inductive TSs where
  | nil
  | cons (a : TS) (r : TSs)
end

noncomputable def nsLookup (k : Nat) : List (Nat × V) → Option V
  | [] => none
  | (j, v) :: r => if j = k then some v else nsLookup k r
noncomputable def nsPut (k : Nat) (v : V) : List (Nat × V) → List (Nat × V)
  | [] => [(k, v)]
  | (j, u) :: r => if j = k then (j, v) :: r else (j, u) :: nsPut k v r

inductive Fl where
  | next | brk
  | ret (v : V)

noncomputable def bindParams : List Nat → List V → Option Rho
  | [], [] => some fun _ => none
  | x :: xs, v :: vs => (bindParams xs vs).map fun ρ => upd ρ x v
  | _, _ => none

noncomputable abbrev Prog := Nat → Option (List Nat × TSs)
noncomputable abbrev PC := Nat → List V → St → (V → St → Prop) → Prop
structure Cl (cal : PC) (f : Nat) (args : List V) (σ : St) (Q : V → St → Prop) : Prop where
  out : cal f args σ Q

noncomputable abbrev iv (xs : List Int) : List V := xs.map V.int
noncomputable abbrev lv (xs : List (List Int)) : List V := xs.map fun f => .seq false (iv f)
noncomputable def varW (o : Option V) (Q : V → Prop) : Prop := match o with | some v => Q v | none => False
noncomputable def brW (b : Bool) (A B : Prop) : Prop := match b with | true => A | false => B
noncomputable def boolW (v : V) (Q : Bool → Prop) : Prop := match v with | .bool b => Q b | _ => False
noncomputable def intW (v : V) (Q : Int → Prop) : Prop := match v with | .int n => Q n | _ => False
noncomputable def listW (v : V) (Q : List V → Prop) : Prop := match v with | .seq false xs => Q xs | _ => False
noncomputable def nilW (v : V) (A B : Prop) : Prop := match v with | .nul => A | _ => B
noncomputable def itemsW (σ : St) (v : V) (Q : List V → Prop) : Prop := match v with
  | .seq _ xs => Q xs
  | .ref r => ∃ xs, σ[r]? = some (.list xs) ∧ Q xs
  | _ => False
@[irreducible] noncomputable def addL (xs ys : List V) (Q : V → Prop) : Prop := xs.length + ys.length ≤ LIM ∧ Q (.seq false (xs ++ ys))
@[irreducible] noncomputable def mulL (xs : List V) (b : Int) (Q : V → Prop) : Prop := (xs.length * b.toNat ≤ LIM ∧ 0 ≤ b ∧ b < 1000) ∧ Q (.seq false (rep b.toNat xs))
@[irreducible] noncomputable def eqL (xs ys : List V) (Q : Bool → Prop) : Prop := ∃ a b, xs = iv a ∧ ys = iv b ∧ Q (decide (a = b))
@[irreducible] noncomputable def inI (a : Int) (ys : List V) (Q : Bool → Prop) : Prop := ∃ b, ys = iv b ∧ Q (decide (a ∈ b))
@[irreducible] noncomputable def inD (σ : St) (a : Int) (r : Nat) (Q : Bool → Prop) : Prop := ∃ es, σ[r]? = some (.dict es) ∧ es.all (·.1.isI) = true ∧ Q (look (.i a) es).isSome
@[irreducible] noncomputable def inL (xs ys : List V) (Q : Bool → Prop) : Prop := ∃ a b, xs = iv a ∧ ys = lv b ∧ Q (decide (a ∈ b))
noncomputable def addW (x y : V) (Q : V → Prop) : Prop := match x with
  | .int a => intW y fun b => Q (.int (a + b))
  | .seq false xs => listW y fun ys => addL xs ys Q
  | _ => False
noncomputable def mulW (x y : V) (Q : V → Prop) : Prop := intW y fun b => match x with
  | .int a => (word a || word b) = true ∧ Q (.int (a * b))
  | .seq false xs => mulL xs b Q
  | _ => False
noncomputable def binW (o : BO) (x y : V) (Q : V → Prop) : Prop := match o with
  | .add => addW x y Q
  | .sub => intW x fun a => intW y fun b => Q (.int (a - b))
  | .mul => mulW x y Q
  | .fdiv => intW x fun a => intW y fun b => (0 < b ∧ b < 2 ^ 64) ∧ Q (.int (a / b))
  | .mod => intW x fun a => intW y fun b => 0 < b ∧ Q (.int (a % b))
noncomputable def eqW (x y : V) (Q : Bool → Prop) : Prop := match x with
  | .int a => intW y fun b => Q (decide (a = b))
  | .seq false xs => listW y fun ys => eqL xs ys Q
  | _ => False
noncomputable def inW (σ : St) (x y : V) (Q : Bool → Prop) : Prop := match x with
  | .int a => (match y with
    | .seq _ ys => inI a ys Q
    | .ref r => inD σ a r Q
    | _ => False)
  | .seq false xs => listW y fun ys => inL xs ys Q
  | _ => False
noncomputable def cmpW (σ : St) (o : CO) (x y : V) (Q : Bool → Prop) : Prop := match o with
  | .eq => eqW x y Q
  | .ne => eqW x y fun b => Q (!b)
  | .lt => intW x fun a => intW y fun b => Q (decide (a < b))
  | .le => intW x fun a => intW y fun b => Q (decide (a ≤ b))
  | .gt => intW x fun a => intW y fun b => Q (decide (a > b))
  | .ge => intW x fun a => intW y fun b => Q (decide (a ≥ b))
  | .isin => inW σ x y Q
  | .notin => inW σ x y fun b => Q (!b)
noncomputable def keyW (v : V) (Q : K → Prop) : Prop := match v with
  | .int n => Q (.i n)
  | .seq true xs => ∃ ns, xs = iv ns ∧ Q (.t ns)
  | _ => False
noncomputable def atW (xs : List V) (i : V) (Q : Nat → V → Prop) : Prop := intW i fun n => ∃ j v, idxOf xs.length n = some j ∧ xs[j]? = some v ∧ Q j v
@[irreducible] noncomputable def indexW (σ : St) (a i : V) (Q : V → Prop) : Prop := match a with
  | .seq _ xs => atW xs i fun _ v => Q v
  | .ref r => (∃ xs, σ[r]? = some (.list xs) ∧ atW xs i fun _ v => Q v) ∨ ∃ es, σ[r]? = some (.dict es) ∧ keyW i fun k => ∃ v, sameKind k es = true ∧ look k es = some v ∧ Q v
  | _ => False
noncomputable def boundW (n dflt : Nat) (v : V) (Q : Nat → Prop) : Prop := match v with
  | .nul => Q dflt
  | .int i => Q (clampLo n i)
  | _ => False
@[irreducible] noncomputable def sliceW (σ : St) (a lo hi : V) (Q : V → Prop) : Prop := match a with
  | .seq true xs => intW hi fun b => lo = .nul ∧ 0 ≤ b ∧ Q (.seq true (xs.take b.toNat))
  | a => itemsW σ a fun xs => boundW xs.length 0 lo fun l => boundW xs.length xs.length hi fun h => Q (.seq false ((xs.take h).drop l))
@[irreducible] noncomputable def overW (σ : St) (v : V) (Q : List V → Prop) : Prop := match v with
  | .seq _ xs => Q xs
  | .rng lo hi => (small lo && small hi) = true ∧ Q (intRange lo (hi - lo).toNat)
  | .ref r => ∃ xs, σ[r]? = some (.list xs) ∧ Q xs
  | _ => False
noncomputable def placeW (mt : Bool) (v : V) (σ : St) (Q : V → St → Prop) : Prop := match mt with
  | false => Q v σ
  | true => listW v fun xs => Q (.ref σ.length) (σ ++ [.list xs])
@[irreducible] noncomputable def appendW (σ : St) (o x : V) (Q : St → Prop) : Prop := match o with
  | .ref r => ∃ xs, σ[r]? = some (.list xs) ∧ xs.length < LIM ∧ Q (σ.set r (.list (xs ++ [x])))
  | _ => False
@[irreducible] noncomputable def getW (σ : St) (o k d : V) (Q : V → Prop) : Prop := match o with
  | .ref r => ∃ es, σ[r]? = some (.dict es) ∧ keyW k fun k => sameKind k es = true ∧ Q ((look k es).getD d)
  | _ => False
@[irreducible] noncomputable def attrW (σ : St) (o : V) (k : Nat) (Q : V → Prop) : Prop := match o with
  | .ref r => ∃ d es v, σ[r]? = some (.inst d) ∧ σ[d]? = some (.ns es) ∧ nsLookup k es = some v ∧ Q v
  | _ => False
@[irreducible] noncomputable def setAttrW (σ : St) (o : V) (k : Nat) (v : V) (Q : St → Prop) : Prop := match o with
  | .ref r => ∃ d es, σ[r]? = some (.inst d) ∧ σ[d]? = some (.ns es) ∧ es.length < 100 ∧ Q (σ.set d (.ns (nsPut k v es)))
  | _ => False
@[irreducible] noncomputable def setIdxW (σ : St) (o i v : V) (Q : St → Prop) : Prop := match o with
  | .ref r => (∃ xs, σ[r]? = some (.list xs) ∧ atW xs i fun j _ => Q (σ.set r (.list (xs.set j v)))) ∨ ∃ es, σ[r]? = some (.dict es) ∧ keyW i fun k => (sameKind k es = true ∧ es.length < LIM) ∧ Q (σ.set r (.dict (put k v es)))
  | _ => False
noncomputable def stillP (σ σ' : St) (v : V) : Prop := match v with | .ref r => σ'[r]? = σ[r]? | _ => True
noncomputable def oneW (vs : List V) (Q : V → Prop) : Prop := match vs with | [a] => Q a | _ => False
noncomputable def twoW (vs : List V) (Q : V → V → Prop) : Prop := match vs with | [a, b] => Q a b | _ => False
noncomputable def isSeqW (σ : St) (v : V) (Q : Prop) : Prop := match v with
  | .seq _ _ => Q
  | .ref r => ∃ xs, σ[r]? = some (.list xs) ∧ Q
  | _ => False
noncomputable def toTupleW (σ : St) (v : V) (Q : V → Prop) : Prop := match v with
  | .seq false xs => Q (.seq true xs)
  | .ref r => ∃ xs, σ[r]? = some (.list xs) ∧ Q (.seq true xs)
  | _ => False
@[irreducible] noncomputable def dictCopyW (σ : St) (v : V) (Q : V → St → Prop) : Prop := match v with
  | .ref r => ∃ es, σ[r]? = some (.dict es) ∧ (es.all (fun e => !e.1.isI) = true ∧ es.length < LIM ∧ (hashes es).Nodup ∧ es ≠ []) ∧ Q (.ref σ.length) (σ ++ [.dict es])
  | _ => False
noncomputable def primW (σ : St) (p : Prim) (vs : List V) (Q : V → St → Prop) : Prop := match p with
  | .len => oneW vs fun a => itemsW σ a fun xs => Q (.int xs.length) σ
  | .range1 => oneW vs fun a => intW a fun n => small n = true ∧ Q (.rng 0 n) σ
  | .range2 => twoW vs fun a b => intW a fun m => intW b fun n => (small m && small n) = true ∧ Q (.rng m n) σ
  | .isInt => oneW vs fun a => intW a fun _ => Q (.bool true) σ
  | .isBool => oneW vs fun a => intW a fun _ => Q (.bool false) σ
  | .isSeq => oneW vs fun a => isSeqW σ a (Q (.bool true) σ)
  | .toList => oneW vs fun a => itemsW σ a fun xs => Q (.seq false xs) σ
  | .toTuple => oneW vs fun a => toTupleW σ a fun v => Q v σ
  | .max => twoW vs fun a b => intW a fun m => intW b fun n => Q (.int (max m n)) σ
  | .min => twoW vs fun a b => intW a fun m => intW b fun n => Q (.int (min m n)) σ
  | .abs => oneW vs fun a => intW a fun n => Q (.int n.natAbs) σ
  | .intOf => oneW vs fun a => boolW a fun b => Q (.int (if b then 1 else 0)) σ
  | .sum => oneW vs fun a => listW a fun xs => ∃ ns, xs = iv ns ∧ Q (.int ns.sum) σ
  | .dictCopy => oneW vs fun a => dictCopyW σ a Q
@[irreducible] noncomputable def instW (σ : St) (v : V) (Q : Prop) : Prop := match v with | .ref r => ∃ d es, σ[r]? = some (.inst d) ∧ σ[d]? = some (.ns es) ∧ Q | _ => False
@[irreducible] noncomputable def isListW (σ : St) (v : V) (Q : Prop) : Prop := match v with | .ref r => ∃ xs, σ[r]? = some (.list xs) ∧ Q | _ => False
@[irreducible] noncomputable def isDictW (σ : St) (v : V) (Q : Prop) : Prop := match v with | .ref r => ∃ es b, σ[r]? = some (.dict es) ∧ es.all (fun e => e.1.isI == b) = true ∧ Q | _ => False

noncomputable abbrev SE := PC → Rho → St → (V → St → Prop) → Prop
noncomputable abbrev SL := PC → Rho → St → (List V → St → Prop) → Prop
noncomputable abbrev SX := PC → Rho → St → (Fl → Rho → St → Prop) → Prop
section
noncomputable def eVar (x : Nat) : SE := fun cal ρ σ Q => varW (ρ x) fun v => Q v σ
noncomputable def eLit (v : V) : SE := fun cal ρ σ Q => Q v σ
noncomputable def eBin (o : BO) (a b : SE) : SE := fun cal ρ σ Q => a cal ρ σ fun x σ₁ => b cal ρ σ₁ fun y σ₂ => binW o x y fun v => Q v σ₂
noncomputable def eNeg (a : SE) : SE := fun cal ρ σ Q => a cal ρ σ fun x σ₁ => intW x fun n => Q (.int (-n)) σ₁
noncomputable def eNot (a : SE) : SE := fun cal ρ σ Q => a cal ρ σ fun x σ₁ => boolW x fun b => Q (.bool (!b)) σ₁
noncomputable def eAnd (a b : SE) : SE := fun cal ρ σ Q => a cal ρ σ fun x σ₁ => boolW x fun c => brW c (b cal ρ σ₁ fun y σ₂ => boolW y fun d => Q (.bool d) σ₂) (Q (.bool false) σ₁)
noncomputable def eOr (a b : SE) : SE := fun cal ρ σ Q => a cal ρ σ fun x σ₁ => boolW x fun c => brW c (Q (.bool true) σ₁) (b cal ρ σ₁ fun y σ₂ => boolW y fun d => Q (.bool d) σ₂)
noncomputable def eCmp (o : CO) (a b : SE) : SE := fun cal ρ σ Q => a cal ρ σ fun x σ₁ => b cal ρ σ₁ fun y σ₂ => cmpW σ₂ o x y fun v => Q (.bool v) σ₂
noncomputable def eChain (o p : CO) (a b c : SE) : SE := fun cal ρ σ Q => a cal ρ σ fun x σ₁ => b cal ρ σ₁ fun y σ₂ => cmpW σ₂ o x y fun d => brW d (c cal ρ σ₂ fun z σ₃ => cmpW σ₃ p y z fun v => Q (.bool v) σ₃) (Q (.bool false) σ₂)
noncomputable def eIsNone (a : SE) (pos : Bool) : SE := fun cal ρ σ Q => a cal ρ σ fun x σ₁ => nilW x (Q (.bool pos) σ₁) (Q (.bool (!pos)) σ₁)
noncomputable def eIte (c a b : SE) : SE := fun cal ρ σ Q => c cal ρ σ fun x σ₁ => boolW x fun d => brW d (a cal ρ σ₁ Q) (b cal ρ σ₁ Q)
noncomputable def eSeq (tup mt : Bool) (es : SL) : SE := fun cal ρ σ Q => es cal ρ σ fun vs σ₁ => vs.length ≤ LIM ∧ placeW mt (.seq tup vs) σ₁ Q
noncomputable def eIdx (a i : SE) : SE := fun cal ρ σ Q => a cal ρ σ fun x σ₁ => i cal ρ σ₁ fun y σ₂ => indexW σ₂ x y fun v => Q v σ₂
noncomputable def eSlice (a b c : SE) : SE := fun cal ρ σ Q => a cal ρ σ fun x σ₁ => b cal ρ σ₁ fun y σ₂ => c cal ρ σ₂ fun z σ₃ => sliceW σ₃ x y z fun v => Q v σ₃
noncomputable def eCall (f : Nat) (es : SL) : SE := fun cal ρ σ Q => es cal ρ σ fun vs σ₁ => Cl cal f vs σ₁ Q
noncomputable def eMeth (f : Nat) (o : SE) (es : SL) : SE := fun cal ρ σ Q => o cal ρ σ fun x σ₁ => instW σ₁ x (es cal ρ σ₁ fun vs σ₂ => Cl cal f (x :: vs) σ₂ Q)
noncomputable def eNew : SE := fun cal ρ σ Q => Cl cal 0 [.ref (σ.length + 1)] (σ ++ [.ns [], .inst σ.length]) fun v σ₁ => v = .nul ∧ Q (.ref (σ.length + 1)) σ₁
noncomputable def ePrim (p : Prim) (mt : Bool) (es : SL) : SE := fun cal ρ σ Q => es cal ρ σ fun vs σ₁ => primW σ₁ p vs fun v σ₂ => placeW mt v σ₂ Q
noncomputable def eAppend (o x : SE) : SE := fun cal ρ σ Q => o cal ρ σ fun a σ₁ => isListW σ₁ a (x cal ρ σ₁ fun v σ₂ => appendW σ₂ a v fun σ₃ => Q .nul σ₃)
noncomputable def eGet (o k d : SE) : SE := fun cal ρ σ Q => o cal ρ σ fun a σ₁ => isDictW σ₁ a (k cal ρ σ₁ fun x σ₂ => d cal ρ σ₂ fun y σ₃ => getW σ₃ a x y fun v => Q v σ₃)
noncomputable def eAttr (o : SE) (k : Nat) : SE := fun cal ρ σ Q => o cal ρ σ fun a σ₁ => attrW σ₁ a k fun v => Q v σ₁
noncomputable def eComp (mt : Bool) (x : Nat) (it elt cond : SE) : SE := fun cal ρ σ Q => it cal ρ σ fun xv σ₁ => overW σ₁ xv fun items => match mt with
  | false => ∃ P : Nat → List V → St → Prop, items.length ≤ LIM ∧ P 0 [] σ₁ ∧
      (∀ i v acc σ', items[i]? = some v → P i acc σ' → cond cal (upd ρ x v) σ' fun c σ'' => boolW c fun b => brW b (elt cal (upd ρ x v) σ'' fun u σ₃ => stillP σ₁ σ₃ xv ∧ P (i + 1) (acc ++ [u]) σ₃) (stillP σ₁ σ'' xv ∧ P (i + 1) acc σ'')) ∧
      ∀ acc σ', P items.length acc σ' → Q (.seq false acc) σ'
  | true => ∃ P : Nat → St → Prop, P 0 (σ₁ ++ [.list []]) ∧
      (∀ i v σ', items[i]? = some v → P i σ' → cond cal (upd ρ x v) σ' fun c σ'' => boolW c fun b => brW b (elt cal (upd ρ x v) σ'' fun u σ₃ => stillP (σ₁ ++ [.list []]) σ₃ xv ∧ appendW σ₃ (.ref σ₁.length) u fun σ₄ => stillP (σ₁ ++ [.list []]) σ₄ xv ∧ P (i + 1) σ₄) (stillP (σ₁ ++ [.list []]) σ'' xv ∧ P (i + 1) σ'')) ∧
      ∀ σ', P items.length σ' → Q (.ref σ₁.length) σ'
noncomputable def eCompD (x : Nat) (it cond : SE) : SE := fun cal ρ σ Q => it cal ρ σ fun xv σ₁ => match xv with
  | .ref r => ∃ es, σ₁[r]? = some (.dict es) ∧ (es.all (fun e => !e.1.isI) = true ∧ es.length < LIM) ∧ (∀ e ∈ es, cond cal (upd ρ x e.1.toV) σ₁ fun v σ' => v = .bool false ∧ σ' = σ₁) ∧ Q (.seq false []) σ₁
  | _ => False
noncomputable def eDict : SE := fun cal ρ σ Q => Q (.ref σ.length) (σ ++ [.dict []])
noncomputable def eRepM (a b : SE) : SE := fun cal ρ σ Q => a cal ρ σ fun x σ₁ => b cal ρ σ₁ fun y σ₂ => binW .mul x y fun v => placeW true v σ₂ Q
noncomputable def eNil : SL := fun cal ρ σ Q => Q [] σ
noncomputable def eCons (a : SE) (r : SL) : SL := fun cal ρ σ Q => a cal ρ σ fun v σ₁ => r cal ρ σ₁ fun vs σ₂ => Q (v :: vs) σ₂

noncomputable def Ev (t : T) : SE := @T.rec (fun _ => SE) (fun _ => SL) eVar eLit (fun o _ _ a b => eBin o a b) (fun _ a => eNeg a) (fun _ a => eNot a) (fun _ _ a b => eAnd a b) (fun _ _ a b => eOr a b) (fun o _ _ a b => eCmp o a b)
  (fun o p _ _ _ a b c => eChain o p a b c) (fun _ pos a => eIsNone a pos) (fun _ _ _ c a b => eIte c a b) (fun tup mt _ es => eSeq tup mt es) (fun _ _ a i => eIdx a i) (fun _ _ _ a b c => eSlice a b c) (fun f _ es => eCall f es) (fun f _ _ o es => eMeth f o es) eNew
  (fun p mt _ es => ePrim p mt es) (fun _ _ o x => eAppend o x) (fun _ _ _ o k d => eGet o k d) (fun _ k o => eAttr o k) (fun mt x _ _ _ it elt cond => eComp mt x it elt cond) (fun x _ _ it cond => eCompD x it cond) eDict (fun _ _ a b => eRepM a b) eNil (fun _ _ a r => eCons a r) t
noncomputable def Evs (t : Ts) : SL := @Ts.rec (fun _ => SE) (fun _ => SL) eVar eLit (fun o _ _ a b => eBin o a b) (fun _ a => eNeg a) (fun _ a => eNot a) (fun _ _ a b => eAnd a b) (fun _ _ a b => eOr a b) (fun o _ _ a b => eCmp o a b)
  (fun o p _ _ _ a b c => eChain o p a b c) (fun _ pos a => eIsNone a pos) (fun _ _ _ c a b => eIte c a b) (fun tup mt _ es => eSeq tup mt es) (fun _ _ a i => eIdx a i) (fun _ _ _ a b c => eSlice a b c) (fun f _ es => eCall f es) (fun f _ _ o es => eMeth f o es) eNew
  (fun p mt _ es => ePrim p mt es) (fun _ _ o x => eAppend o x) (fun _ _ _ o k d => eGet o k d) (fun _ k o => eAttr o k) (fun mt x _ _ _ it elt cond => eComp mt x it elt cond) (fun x _ _ it cond => eCompD x it cond) eDict (fun _ _ a b => eRepM a b) eNil (fun _ _ a r => eCons a r) t

noncomputable def nextW (f : Fl) (A B : Prop) : Prop := match f with | .next => A | _ => B
noncomputable def forW (f : Fl) (A B : Prop) (C : V → Prop) : Prop := match f with | .next => A | .brk => B | .ret v => C v
noncomputable def unpackW (xs : List Nat) (v : V) (Q : V → V → Prop) : Prop := match v with | .seq true [a, b] => Q a b | _ => False
noncomputable def bindW (xs : List Nat) (v : V) (ρ : Rho) (Q : Rho → Prop) : Prop := match xs with
  | [x] => Q (upd ρ x v)
  | [x, y] => unpackW xs v fun a b => Q (upd (upd ρ x a) y b)
  | _ => False
noncomputable def xAssign (x : Nat) (e : SE) : SX := fun cal ρ σ Q => e cal ρ σ fun v σ₁ => Q .next (upd ρ x v) σ₁
noncomputable def xUnpack (xs : List Nat) (e : SE) : SX := fun cal ρ σ Q => e cal ρ σ fun v σ₁ => match xs with
  | [x, y] => unpackW xs v fun a b => Q .next (upd (upd ρ x a) y b) σ₁
  | _ => False
noncomputable def xPairIdx (o₁ i₁ o₂ i₂ a b : SE) : SX := fun cal ρ σ Q => a cal ρ σ fun va σ₁ => b cal ρ σ₁ fun vb σ₂ => o₁ cal ρ σ₂ fun x1 σ₃ => i₁ cal ρ σ₃ fun k1 σ₄ => setIdxW σ₄ x1 k1 va fun σ₅ => o₂ cal ρ σ₅ fun x2 σ₆ => i₂ cal ρ σ₆ fun k2 σ₇ => setIdxW σ₇ x2 k2 vb fun σ₈ => Q .next ρ σ₈
noncomputable def xSetIdx (o i e : SE) : SX := fun cal ρ σ Q => e cal ρ σ fun v σ₁ => o cal ρ σ₁ fun a σ₂ => i cal ρ σ₂ fun k σ₃ => setIdxW σ₃ a k v fun σ₄ => Q .next ρ σ₄
noncomputable def xSetAttr (o : SE) (k : Nat) (e : SE) : SX := fun cal ρ σ Q => e cal ρ σ fun v σ₁ => o cal ρ σ₁ fun a σ₂ => setAttrW σ₂ a k v fun σ₄ => Q .next ρ σ₄
noncomputable def xAugName (x : Nat) (o : BO) (e : SE) : SX := fun cal ρ σ Q => varW (ρ x) fun old => intW old fun a => e cal ρ σ fun v σ₁ => intW v fun b => binW o (.int a) (.int b) fun u => Q .next (upd ρ x u) σ₁
noncomputable def xAugAttr (ob : SE) (k : Nat) (o : BO) (e : SE) : SX := fun cal ρ σ Q => ob cal ρ σ fun a σ₀ => attrW σ₀ a k fun old => intW old fun x => e cal ρ σ₀ fun v σ₁ => intW v fun y => binW o (.int x) (.int y) fun u => setAttrW σ₁ a k u fun σ₂ => Q .next ρ σ₂
noncomputable def LoopW (cal : PC) (xs : List Nat) (items : List V) (body : SX) (xv : V) (ρ : Rho) (σ₁ : St) (Q : Fl → Rho → St → Prop) : Prop := ∃ P : Nat → Rho → St → Prop, P 0 ρ σ₁ ∧
  (∀ i v ρ' σ', items[i]? = some v → P i ρ' σ' → bindW xs v ρ' fun ρ₁ => body cal ρ₁ σ' fun f ρ₂ σ₂ => forW f (stillP σ₁ σ₂ xv ∧ P (i + 1) ρ₂ σ₂) (Q .next ρ₂ σ₂) fun v => Q (.ret v) ρ₂ σ₂) ∧
  ∀ ρ' σ', P items.length ρ' σ' → Q .next ρ' σ'
noncomputable def xFor (xs : List Nat) (it : SE) (body : SX) : SX := fun cal ρ σ Q => it cal ρ σ fun xv σ₁ => overW σ₁ xv fun items => LoopW cal xs items body xv ρ σ₁ Q
noncomputable def xIte (c : SE) (a b : SX) : SX := fun cal ρ σ Q => c cal ρ σ fun x σ₁ => boolW x fun d => brW d (a cal ρ σ₁ Q) (b cal ρ σ₁ Q)
noncomputable def xRet (e : SE) : SX := fun cal ρ σ Q => e cal ρ σ fun v σ₁ => Q (.ret v) ρ σ₁
noncomputable def xExpr (e : SE) : SX := fun cal ρ σ Q => e cal ρ σ fun v σ₁ => v = .nul ∧ Q .next ρ σ₁
noncomputable def xBrk : SX := fun cal ρ σ Q => Q .brk ρ σ
noncomputable def xFail : SX := fun _ _ _ _ => False
noncomputable def xNil : SX := fun cal ρ σ Q => Q .next ρ σ
structure Lk (p : Prop) : Prop where
  out : p
noncomputable def tailX (t : TSs) (r : SX) : SX := match t with | .nil => r | .cons _ _ => fun cal ρ σ Q => Lk (r cal ρ σ Q)
noncomputable def xCons (s r : SX) : SX := fun cal ρ σ Q => s cal ρ σ fun f ρ₁ σ₁ => nextW f (r cal ρ₁ σ₁ Q) (Q f ρ₁ σ₁)
noncomputable def Exs (t : TSs) : SX := @TSs.rec (fun _ => SX) (fun _ => SX) (fun x e => xAssign x (Ev e)) (fun xs e => xUnpack xs (Ev e)) (fun a b c d e f => xPairIdx (Ev a) (Ev b) (Ev c) (Ev d) (Ev e) (Ev f)) (fun o i e => xSetIdx (Ev o) (Ev i) (Ev e)) (fun o k e => xSetAttr (Ev o) k (Ev e))
  (fun x o e => xAugName x o (Ev e)) (fun ob k o e => xAugAttr (Ev ob) k o (Ev e)) (fun xs it _ body => xFor xs (Ev it) body) (fun c _ _ a b => xIte (Ev c) a b) (fun e => xRet (Ev e)) (fun e => xExpr (Ev e)) xBrk xFail xNil (fun _ t s r => xCons s (tailX t r)) t
end
noncomputable def RetQ (Q : V → St → Prop) : Fl → Rho → St → Prop := fun fl _ σ' => match fl with | .ret v => Q v σ' | .next => Q .nul σ' | .brk => False
noncomputable def paramsW (xs : List Nat) (vs : List V) (Q : Rho → Prop) : Prop := match bindParams xs vs with | some ρ => Q ρ | none => False
noncomputable def defW (o : Option (List Nat × TSs)) (Q : List Nat → TSs → Prop) : Prop := match o with | some d => Q d.1 d.2 | none => False
noncomputable def runW (P : Prog) (n : Nat) : PC := @Nat.rec (fun _ => PC) (fun _ _ _ _ => False) (fun _ cal f args σ Q => defW (P f) fun xs b => paramsW xs args fun ρ => Exs b cal ρ σ (RetQ Q)) n
noncomputable def updL (ρ : Rho) : List (Nat × V) → Rho
  | [] => ρ
  | (x, v) :: r => upd (updL ρ r) x v
noncomputable def none₀ : Rho := fun _ => none
noncomputable def envOf (xs : List Nat) (vs : List V) : Rho := updL none₀ (xs.zip vs)
theorem bind_env : ∀ (xs : List Nat) (vs : List V), xs.length = vs.length → bindParams xs vs = some (envOf xs vs)
  | [], [], _ => rfl
  | x :: xs, v :: vs, h => by
    show (bindParams xs vs).map _ = _
    rw [bind_env xs vs (Nat.succ.inj h)]; rfl
theorem Cl.go {P : Prog} {n f : Nat} {args : List V} {σ : St} {Q : V → St → Prop} (d : List Nat × TSs) (hd : P f = some d) (hb : d.1.length = args.length) (h : Exs d.2 (runW P n) (envOf d.1 args) σ (RetQ Q)) : Cl (runW P (n + 1)) f args σ Q := by
  refine ⟨?_⟩
  unfold runW
  simp only [defW, hd, paramsW, bind_env _ _ hb]
  exact h
noncomputable def drp : Nat → TSs → TSs
  | 0, t => t
  | k + 1, .cons _ r => drp k r
  | _ + 1, .nil => .nil
end Mine
end

section
namespace Mine
open PySem

noncomputable def d0 : List Nat × TSs := ([1], (.cons (.setAttr (.var 1) 0 .emptyDict)
  (.cons (.setAttr (.var 1) 1 .emptyDict)
  (.cons (.setAttr (.var 1) 2 (.lit (.int 1)))
  (.cons (.setAttr (.var 1) 3 .emptyDict)
  .nil)))))
noncomputable def d1 : List Nat × TSs := ([3, 4, 5], (.cons (.ret (.and (.prim .isInt false (.cons (.var 3) .nil)) (.and (.not (.prim .isBool false (.cons (.var 3) .nil))) (.chain .le .le (.var 4) (.var 3) (.var 5)))))
  .nil))
noncomputable def d2 : List Nat × TSs := ([3], (.cons (.ite (.or (.not (.prim .isInt false (.cons (.var 3) .nil))) (.prim .isBool false (.cons (.var 3) .nil))) (.cons .fail
  .nil) .nil)
  (.cons (.ret (.var 3))
  .nil)))
noncomputable def d3 : List Nat × TSs := ([6], (.cons (.ite (.or (.not (.prim .isSeq false (.cons (.var 6) .nil))) (.cmp .eq (.prim .len false (.cons (.var 6) .nil)) (.lit (.int 0)))) (.cons (.ret (.lit (.bool false)))
  .nil) .nil)
  (.cons (.forin [7] (.var 6) (.cons (.ite (.not (.call 1 (.cons (.var 7) (.cons (.lit (.int 1)) (.cons (.lit (.int 255)) .nil))))) (.cons (.ret (.lit (.bool false)))
  .nil) .nil)
  .nil))
  (.cons (.ret (.lit (.bool true)))
  .nil))))
noncomputable def d4 : List Nat × TSs := ([6], (.cons (.unpack [8, 9] (.seq true false (.cons (.lit (.int 0)) (.cons (.prim .len false (.cons (.var 6) .nil)) .nil))))
  (.cons (.ite (.and (.cmp .gt (.var 9) (.var 8)) (.cmp .eq (.idx (.var 6) (.var 8)) (.lit (.int 0)))) (.cons (.augName 8 .add (.lit (.int 1)))
  .nil) .nil)
  (.cons (.ite (.and (.cmp .gt (.var 9) (.var 8)) (.cmp .eq (.idx (.var 6) (.bin .sub (.var 9) (.lit (.int 1)))) (.lit (.int 0)))) (.cons (.augName 9 .sub (.lit (.int 1)))
  .nil) .nil)
  (.cons (.ret (.prim .toList false (.cons (.slice (.var 6) (.var 8) (.var 9)) .nil)))
  .nil)))))
noncomputable def d5 : List Nat × TSs := ([6, 10], (.cons (.ite (.or (.not (.prim .isSeq false (.cons (.var 6) .nil))) (.not (.prim .isSeq false (.cons (.var 10) .nil)))) (.cons .fail
  .nil) .nil)
  (.cons (.forin [7] (.var 6) (.cons (.ite (.not (.call 1 (.cons (.var 7) (.cons (.lit (.int 0)) (.cons (.lit (.int 255)) .nil))))) (.cons .fail
  .nil) .nil)
  .nil))
  (.cons (.ite (.not (.call 3 (.cons (.call 4 (.cons (.var 6) .nil)) .nil))) (.cons .fail
  .nil) .nil)
  (.cons (.ite (.cmp .gt (.prim .len false (.cons (.var 6) .nil)) (.lit (.int 63))) (.cons .fail
  .nil) .nil)
  (.cons (.ite (.cmp .ne (.prim .len false (.cons (.var 10) .nil)) (.bin .add (.prim .len false (.cons (.var 6) .nil)) (.lit (.int 1)))) (.cons .fail
  .nil) .nil)
  (.cons (.forin [11] (.var 10) (.cons (.ite (.not (.call 1 (.cons (.var 11) (.cons (.lit (.int 0)) (.cons (.lit (.int 9)) .nil))))) (.cons .fail
  .nil) .nil)
  .nil))
  .nil)))))))
noncomputable def d6 : List Nat × TSs := ([6], (.cons (.assign 12 (.lit (.int 0)))
  (.cons (.forin [7] (.var 6) (.cons (.assign 12 (.bin .add (.bin .mul (.lit (.int 256)) (.var 12)) (.var 7)))
  .nil))
  (.cons (.ret (.var 12))
  .nil))))
noncomputable def d7 : List Nat × TSs := ([3], (.cons (.ret (.prim .max false (.cons (.lit (.int 1)) (.cons (.prim .min false (.cons (.lit (.int 63)) (.cons (.call 2 (.cons (.var 3) .nil)) .nil))) .nil))))
  .nil))
noncomputable def d8 : List Nat × TSs := ([1, 6], (.cons (.assign 13 (.lit (.int 0)))
  (.cons (.forin [7] (.var 6) (.cons (.assign 13 (.get (.attr (.var 1) 0) (.bin .add (.bin .mul (.lit (.int 256)) (.var 13)) (.var 7)) (.neg (.lit (.int 1)))))
  (.cons (.ite (.cmp .lt (.var 13) (.lit (.int 0))) (.cons (.ret (.neg (.lit (.int 1))))
  .nil) .nil)
  .nil)))
  (.cons (.ret (.var 13))
  .nil))))
noncomputable def d9 : List Nat × TSs := ([1, 6, 10], (.cons (.expr (.call 5 (.cons (.var 6) (.cons (.var 10) .nil))))
  (.cons (.ite (.cmp .isin (.meth 8 (.var 1) (.cons (.var 6) .nil)) (.attr (.var 1) 1)) (.cons .fail
  .nil) .nil)
  (.cons (.assign 14 (.prim .toList true (.cons (.var 10) .nil)))
  (.cons (.ite (.cmp .eq (.idx (.var 6) (.lit (.int 0))) (.lit (.int 0))) (.cons (.setIdx (.var 14) (.lit (.int 0)) (.lit (.int 0)))
  .nil) .nil)
  (.cons (.ite (.cmp .eq (.idx (.var 6) (.neg (.lit (.int 1)))) (.lit (.int 0))) (.cons (.setIdx (.var 14) (.neg (.lit (.int 1))) (.lit (.int 0)))
  .nil) .nil)
  (.cons (.assign 13 (.lit (.int 0)))
  (.cons (.forin [7] (.var 6) (.cons (.assign 15 (.bin .add (.bin .mul (.lit (.int 256)) (.var 13)) (.var 7)))
  (.cons (.ite (.cmp .notin (.var 15) (.attr (.var 1) 0)) (.cons (.setIdx (.attr (.var 1) 0) (.var 15) (.attr (.var 1) 2))
  (.cons (.augAttr (.var 1) 2 .add (.lit (.int 1)))
  .nil)) .nil)
  (.cons (.assign 13 (.idx (.attr (.var 1) 0) (.var 15)))
  .nil))))
  (.cons (.setIdx (.attr (.var 1) 1) (.var 13) (.prim .toTuple false (.cons (.var 14) .nil)))
  .nil)))))))))
noncomputable def d10 : List Nat × TSs := ([1, 6, 17], (.cons (.ite (.or (.not (.prim .isSeq false (.cons (.var 6) .nil))) (.not (.prim .isSeq false (.cons (.var 17) .nil)))) (.cons .fail
  .nil) .nil)
  (.cons (.ite (.or (.not (.call 3 (.cons (.var 6) .nil))) (.cmp .gt (.prim .len false (.cons (.var 6) .nil)) (.lit (.int 63)))) (.cons .fail
  .nil) .nil)
  (.cons (.forin [18] (.var 17) (.cons (.ite (.not (.call 1 (.cons (.var 18) (.cons (.lit (.int 0)) (.cons (.prim .len false (.cons (.var 6) .nil)) .nil))))) (.cons .fail
  .nil) .nil)
  .nil))
  (.cons (.setIdx (.attr (.var 1) 3) (.call 6 (.cons (.var 6) .nil)) (.prim .toTuple false (.cons (.comp false 18 (.prim .range1 false (.cons (.bin .add (.prim .len false (.cons (.var 6) .nil)) (.lit (.int 1))) .nil)) (.var 18) (.cmp .isin (.var 18) (.var 17))) .nil)))
  .nil)))))
noncomputable def d11 : List Nat × TSs := ([1, 6], (.cons (.assign 19 (.bin .add (.bin .add (.seq false false (.cons (.lit (.int 0)) .nil)) (.prim .toList false (.cons (.var 6) .nil))) (.seq false false (.cons (.lit (.int 0)) .nil))))
  (.cons (.assign 12 (.repM (.seq false false (.cons (.lit (.int 0)) .nil)) (.bin .add (.prim .len false (.cons (.var 19) .nil)) (.lit (.int 1)))))
  (.cons (.forin [8] (.prim .range1 false (.cons (.prim .len false (.cons (.var 19) .nil)) .nil)) (.cons (.assign 13 (.lit (.int 0)))
  (.cons (.forin [7] (.slice (.var 19) (.var 8) (.lit .nul)) (.cons (.assign 13 (.get (.attr (.var 1) 0) (.bin .add (.bin .mul (.lit (.int 256)) (.var 13)) (.var 7)) (.neg (.lit (.int 1)))))
  (.cons (.ite (.cmp .lt (.var 13) (.lit (.int 0))) (.cons .brk
  .nil) .nil)
  (.cons (.assign 15 (.var 8))
  (.cons (.forin [11] (.get (.attr (.var 1) 1) (.var 13) (.seq true false .nil)) (.cons (.setIdx (.var 12) (.var 15) (.prim .max false (.cons (.idx (.var 12) (.var 15)) (.cons (.var 11) .nil))))
  (.cons (.augName 15 .add (.lit (.int 1)))
  .nil)))
  .nil)))))
  .nil)))
  (.cons (.ret (.slice (.var 12) (.lit (.int 1)) (.prim .len false (.cons (.var 19) .nil))))
  .nil)))))
noncomputable def d12 : List Nat × TSs := ([1, 6, 20, 21], (.cons (.ite (.not (.call 3 (.cons (.var 6) .nil))) (.cons .fail
  .nil) .nil)
  (.cons (.assign 22 (.prim .toList false (.cons (.slice (.var 6) (.lit .nul) (.lit (.int 63))) .nil)))
  (.cons (.unpack [23, 24] (.seq true false (.cons (.call 7 (.cons (.var 20) .nil)) (.cons (.bin .sub (.prim .len false (.cons (.var 22) .nil)) (.call 7 (.cons (.var 21) .nil))) .nil))))
  (.cons (.assign 25 (.get (.attr (.var 1) 3) (.call 6 (.cons (.var 22) .nil)) (.lit .nul)))
  (.cons (.ite (.isNone (.var 25) false) (.cons (.ret (.comp false 18 (.var 25) (.var 18) (.chain .le .le (.var 23) (.var 18) (.var 24))))
  .nil) .nil)
  (.cons (.assign 26 (.meth 11 (.var 1) (.cons (.var 22) .nil)))
  (.cons (.ret (.comp false 18 (.prim .range2 false (.cons (.var 23) (.cons (.bin .add (.var 24) (.lit (.int 1))) .nil))) (.var 18) (.cmp .eq (.bin .mod (.idx (.var 26) (.var 18)) (.lit (.int 2))) (.lit (.int 1)))))
  .nil))))))))
noncomputable def d13 : List Nat × TSs := ([27, 28], (.cons (.ret (.seq false true (.cons (.prim .max false (.cons (.lit (.int 0)) (.cons (.bin .sub (.var 27) (.lit (.int 1000000000000000000))) .nil))) (.cons (.bin .add (.bin .mod (.bin .add (.bin .add (.bin .mul (.lit (.int 2)) (.prim .abs false (.cons (.var 27) .nil))) (.prim .intOf false (.cons (.cmp .lt (.var 27) (.lit (.int 0))) .nil))) (.prim .abs false (.cons (.var 28) .nil))) (.lit (.int 2147483629))) (.lit (.int 7))) .nil))))
  .nil))
noncomputable def d14 : List Nat × TSs := ([29, 30], (.cons (.ite (.cmp .gt (.idx (.var 29) (.lit (.int 0))) (.lit (.int 0))) (.cons (.assign 11 (.bin .mod (.idx (.var 29) (.lit (.int 0))) (.var 30)))
  (.cons (.setIdx (.var 29) (.lit (.int 0)) (.bin .fdiv (.idx (.var 29) (.lit (.int 0))) (.var 30)))
  (.cons (.ret (.var 11))
  .nil))) .nil)
  (.cons (.setIdx (.var 29) (.lit (.int 1)) (.bin .mod (.bin .add (.bin .mul (.idx (.var 29) (.lit (.int 1))) (.lit (.int 48271))) (.lit (.int 11))) (.lit (.int 2147483647))))
  (.cons (.ret (.bin .mod (.bin .fdiv (.idx (.var 29) (.lit (.int 1))) (.lit (.int 16))) (.var 30)))
  .nil))))
noncomputable def d15 : List Nat × TSs := ([29, 31, 30], (.cons (.ret (.comp false 0 (.prim .range1 false (.cons (.var 30) .nil)) (.idx (.var 31) (.call 14 (.cons (.var 29) (.cons (.lit (.int 3)) .nil)))) (.lit (.bool true))))
  .nil))
noncomputable def d16 : List Nat × TSs := ([6], (.cons (.ret (.comp false 0 (.prim .range1 false (.cons (.bin .add (.prim .len false (.cons (.var 6) .nil)) (.lit (.int 1))) .nil)) (.var 0) (.and (.or (.cmp .gt (.var 0) (.lit (.int 0))) (.cmp .gt (.idx (.var 6) (.lit (.int 0))) (.lit (.int 0)))) (.or (.cmp .lt (.var 0) (.prim .len false (.cons (.var 6) .nil))) (.cmp .gt (.idx (.var 6) (.neg (.lit (.int 1)))) (.lit (.int 0)))))))
  .nil))
noncomputable def d17 : List Nat × TSs := ([29, 31, 32, 33], (.cons (.assign 12 (.seq false true .nil))
  (.cons (.forin [34] (.prim .range1 false (.cons (.bin .add (.lit (.int 1)) (.call 14 (.cons (.var 29) (.cons (.var 32) .nil)))) .nil)) (.cons (.unpack [6, 35] (.seq true false (.cons (.call 15 (.cons (.var 29) (.cons (.var 31) (.cons (.bin .add (.lit (.int 1)) (.call 14 (.cons (.var 29) (.cons (.var 33) .nil)))) .nil)))) (.cons (.call 14 (.cons (.var 29) (.cons (.lit (.int 8)) .nil))) .nil))))
  (.cons (.assign 6 (.bin .add (.bin .add (.bin .mul (.seq false false (.cons (.lit (.int 0)) .nil)) (.prim .intOf false (.cons (.cmp .isin (.var 35) (.seq true false (.cons (.lit (.int 1)) (.cons (.lit (.int 3)) .nil)))) .nil))) (.var 6)) (.bin .mul (.seq false false (.cons (.lit (.int 0)) .nil)) (.prim .intOf false (.cons (.cmp .isin (.var 35) (.seq true false (.cons (.lit (.int 2)) (.cons (.lit (.int 3)) .nil)))) .nil)))))
  (.cons (.assign 26 (.comp true 0 (.prim .range1 false (.cons (.bin .add (.prim .len false (.cons (.var 6) .nil)) (.lit (.int 1))) .nil)) (.idx (.seq false false (.cons (.lit (.int 0)) (.cons (.lit (.int 1)) (.cons (.lit (.int 2)) (.cons (.lit (.int 0)) (.cons (.lit (.int 3)) (.cons (.lit (.int 0)) (.cons (.lit (.int 7)) .nil)))))))) (.call 14 (.cons (.var 29) (.cons (.lit (.int 7)) .nil)))) (.lit (.bool true))))
  (.cons (.ite (.cmp .notin (.var 6) (.comp false 36 (.var 12) (.idx (.var 36) (.lit (.int 0))) (.lit (.bool true)))) (.cons (.expr (.append (.var 12) (.seq true false (.cons (.var 6) (.cons (.var 26) .nil)))))
  .nil) .nil)
  .nil)))))
  (.cons (.ret (.var 12))
  .nil))))
noncomputable def d18 : List Nat × TSs := ([37], (.cons (.assign 38 .new)
  (.cons (.forin [6, 26] (.var 37) (.cons (.expr (.meth 9 (.var 38) (.cons (.var 6) (.cons (.var 26) .nil))))
  .nil))
  (.cons (.ret (.var 38))
  .nil))))
noncomputable def d19 : List Nat × TSs := ([37], (.cons (.unpack [39, 40] (.seq true false (.cons (.lit (.int 0)) (.cons (.lit (.int 0)) .nil))))
  (.cons (.forin [6, 26] (.var 37) (.cons (.forin [0] (.call 16 (.cons (.var 6) .nil)) (.cons (.ite (.cmp .gt (.idx (.var 26) (.var 0)) (.lit (.int 0))) (.cons (.unpack [39, 40] (.seq true false (.cons (.prim .max false (.cons (.var 39) (.cons (.var 0) .nil))) (.cons (.prim .max false (.cons (.var 40) (.cons (.bin .sub (.prim .len false (.cons (.var 6) .nil)) (.var 0)) .nil))) .nil))))
  .nil) .nil)
  .nil))
  .nil))
  (.cons (.ret (.seq true false (.cons (.var 39) (.cons (.var 40) .nil))))
  .nil))))
noncomputable def d20 : List Nat × TSs := ([37, 41, 42, 43], (.cons (.assign 12 (.seq false true .nil))
  (.cons (.forin [6, 26] (.var 37) (.cons (.expr (.append (.var 12) (.seq true false (.cons (.var 6) (.cons (.ite (.cmp .eq (.var 6) (.var 41)) (.bin .add (.bin .add (.slice (.var 26) (.lit .nul) (.var 42)) (.seq false false (.cons (.var 43) .nil))) (.slice (.var 26) (.bin .add (.var 42) (.lit (.int 1))) (.lit .nul))) (.var 26)) .nil)))))
  .nil))
  (.cons (.ite (.cmp .notin (.var 41) (.comp false 36 (.var 37) (.idx (.var 36) (.lit (.int 0))) (.lit (.bool true)))) (.cons (.expr (.append (.var 12) (.seq true false (.cons (.var 41) (.cons (.bin .add (.bin .add (.bin .mul (.seq false false (.cons (.lit (.int 0)) .nil)) (.var 42)) (.seq false false (.cons (.var 43) .nil))) (.bin .mul (.seq false false (.cons (.lit (.int 0)) .nil)) (.bin .sub (.prim .len false (.cons (.var 41) .nil)) (.var 42)))) .nil)))))
  .nil) .nil)
  (.cons (.ret (.var 12))
  .nil)))))
noncomputable def d21 : List Nat × TSs := ([22, 42, 44], (.cons (.assign 19 (.bin .add (.bin .add (.seq false false (.cons (.lit (.int 0)) .nil)) (.var 22)) (.seq false false (.cons (.lit (.int 0)) .nil))))
  (.cons (.ret (.prim .toTuple false (.cons (.bin .add (.bin .add (.slice (.var 19) (.prim .max false (.cons (.lit (.int 0)) (.cons (.bin .sub (.bin .add (.var 42) (.lit (.int 1))) (.idx (.var 44) (.lit (.int 0)))) .nil))) (.bin .add (.var 42) (.lit (.int 1)))) (.seq false false (.cons (.neg (.lit (.int 1))) .nil))) (.slice (.var 19) (.bin .add (.var 42) (.lit (.int 1))) (.bin .add (.bin .add (.var 42) (.lit (.int 1))) (.idx (.var 44) (.lit (.int 1)))))) .nil)))
  .nil)))
noncomputable def d22 : List Nat × TSs := ([38, 45, 44], (.cons (.assign 46 .emptyDict)
  (.cons (.forin [22] (.var 45) (.cons (.assign 47 (.meth 11 (.var 38) (.cons (.var 22) .nil)))
  (.cons (.ite (.cmp .ne (.prim .len false (.cons (.var 47) .nil)) (.bin .add (.prim .len false (.cons (.var 22) .nil)) (.lit (.int 1)))) (.cons (.ret (.lit .nul))
  .nil) .nil)
  (.cons (.forin [42] (.prim .range1 false (.cons (.prim .len false (.cons (.var 47) .nil)) .nil)) (.cons (.assign 48 (.call 21 (.cons (.var 22) (.cons (.var 42) (.cons (.var 44) .nil)))))
  (.cons (.ite (.cmp .ne (.get (.var 46) (.var 48) (.idx (.var 47) (.var 42))) (.idx (.var 47) (.var 42))) (.cons (.ret (.lit .nul))
  .nil) .nil)
  (.cons (.setIdx (.var 46) (.var 48) (.idx (.var 47) (.var 42)))
  .nil))))
  .nil))))
  (.cons (.ret (.var 46))
  .nil))))
noncomputable def d23 : List Nat × TSs := ([22, 49], (.cons (.ret (.prim .range2 false (.cons (.prim .min false (.cons (.prim .max false (.cons (.idx (.var 49) (.lit (.int 0))) (.cons (.lit (.int 1)) .nil))) (.cons (.lit (.int 63)) .nil))) (.cons (.bin .add (.bin .sub (.prim .len false (.cons (.slice (.var 22) (.lit .nul) (.lit (.int 63))) .nil)) (.prim .min false (.cons (.prim .max false (.cons (.idx (.var 49) (.lit (.int 1))) (.cons (.lit (.int 1)) .nil))) (.cons (.lit (.int 63)) .nil)))) (.lit (.int 1))) .nil))))
  .nil))
noncomputable def d24 : List Nat × TSs := ([46, 22, 44, 49], (.cons (.ret (.comp false 42 (.call 23 (.cons (.var 22) (.cons (.var 49) .nil))) (.var 42) (.cmp .eq (.bin .mod (.idx (.var 46) (.call 21 (.cons (.slice (.var 22) (.lit .nul) (.lit (.int 63))) (.cons (.var 42) (.cons (.var 44) .nil))))) (.lit (.int 2))) (.lit (.int 1)))))
  .nil))
noncomputable def d25 : List Nat × TSs := ([29, 31, 22, 41, 18, 8], (.cons (.ite (.cmp .eq (.idx (.var 41) (.var 18)) (.lit (.int 0))) (.cons (.assign 50 (.call 15 (.cons (.var 29) (.cons (.var 31) (.cons (.lit (.int 1)) .nil)))))
  (.cons (.ret (.ite (.cmp .eq (.var 18) (.lit (.int 0))) (.seq true false (.cons (.bin .add (.var 50) (.var 22)) (.cons (.lit (.int 1)) .nil))) (.seq true false (.cons (.bin .add (.var 22) (.var 50)) (.cons (.lit (.int 0)) .nil)))))
  .nil)) .nil)
  (.cons (.assign 51 (.bin .add (.var 8) (.var 18)))
  (.cons (.assign 50 (.idx (.comp false 52 (.var 31) (.var 52) (.cmp .ne (.var 52) (.idx (.var 22) (.var 51)))) (.call 14 (.cons (.var 29) (.cons (.lit (.int 2)) .nil)))))
  (.cons (.ret (.seq true false (.cons (.bin .add (.bin .add (.slice (.var 22) (.lit .nul) (.var 51)) (.seq false false (.cons (.var 50) .nil))) (.slice (.var 22) (.bin .add (.var 51) (.lit (.int 1))) (.lit .nul))) (.cons (.lit (.int 0)) .nil))))
  .nil)))))
noncomputable def d26 : List Nat × TSs := ([53], (.cons (.assign 54 (.ite (.cmp .ne (.var 53) (.seq false false .nil)) (.slice (.var 53) (.lit .nul) (.lit (.int 2))) (.seq false false (.cons (.bin .add (.lit (.int 1000000000000000000)) (.lit (.int 1743362577812137464))) .nil))))
  (.cons (.assign 55 (.comp false 27 (.var 54) (.call 13 (.cons (.var 27) (.cons (.prim .sum false (.cons (.slice (.var 53) (.lit (.int 2)) (.lit .nul)) .nil)) .nil))) (.lit (.bool true))))
  (.cons (.unpack [29, 56] (.seq true false (.cons (.idx (.var 55) (.lit (.int 0))) (.cons (.idx (.var 55) (.neg (.lit (.int 1)))) .nil))))
  (.cons (.assign 31 (.idx (.seq false false (.cons (.seq false false (.cons (.lit (.int 97)) (.cons (.lit (.int 98)) (.cons (.lit (.int 99)) .nil)))) (.cons (.seq false false (.cons (.lit (.int 1)) (.cons (.lit (.int 255)) (.cons (.lit (.int 97)) .nil)))) .nil))) (.prim .intOf false (.cons (.cmp .eq (.call 14 (.cons (.var 29) (.cons (.lit (.int 4)) .nil))) (.lit (.int 3))) .nil))))
  (.cons (.assign 57 (.and (.cmp .eq (.call 14 (.cons (.var 29) (.cons (.lit (.int 6)) .nil))) (.lit (.int 5))) (.cmp .gt (.prim .len false (.cons (.var 53) .nil)) (.lit (.int 1)))))
  (.cons (.assign 37 (.call 17 (.cons (.var 29) (.cons (.var 31) (.cons (.ite (.or (.var 57) (.cmp .lt (.prim .len false (.cons (.var 53) .nil)) (.lit (.int 2)))) (.lit (.int 2)) (.lit (.int 5))) (.cons (.ite (.var 57) (.lit (.int 2)) (.lit (.int 3))) .nil))))))
  (.cons (.unpack [58, 26] (.idx (.var 37) (.lit (.int 0))))
  (.cons (.assign 59 (.call 16 (.cons (.var 58) .nil)))
  (.cons (.assign 15 (.idx (.var 59) (.call 14 (.cons (.var 29) (.cons (.prim .len false (.cons (.var 59) .nil)) .nil)))))
  (.cons (.setIdx (.var 26) (.var 15) (.bin .add (.lit (.int 1)) (.call 14 (.cons (.var 29) (.cons (.lit (.int 7)) .nil)))))
  (.cons (.assign 44 (.call 19 (.cons (.var 37) .nil)))
  (.cons (.unpack [60, 61] (.seq true false (.cons (.prim .intOf false (.cons (.cmp .eq (.idx (.var 58) (.lit (.int 0))) (.lit (.int 0))) .nil)) (.cons (.prim .intOf false (.cons (.cmp .eq (.idx (.var 58) (.neg (.lit (.int 1)))) (.lit (.int 0))) .nil)) .nil))))
  (.cons (.assign 20 (.ite (.cmp .eq (.var 60) (.lit (.int 1))) (.slice (.var 58) (.lit (.int 1)) (.var 15)) (.bin .add (.call 15 (.cons (.var 29) (.cons (.var 31) (.cons (.bin .sub (.idx (.var 44) (.lit (.int 0))) (.var 15)) .nil)))) (.slice (.var 58) (.lit .nul) (.var 15)))))
  (.cons (.assign 21 (.ite (.cmp .eq (.var 61) (.lit (.int 1))) (.slice (.var 58) (.var 15) (.neg (.lit (.int 1)))) (.bin .add (.slice (.var 58) (.var 15) (.lit .nul)) (.call 15 (.cons (.var 29) (.cons (.var 31) (.cons (.bin .sub (.bin .add (.idx (.var 44) (.lit (.int 1))) (.var 15)) (.prim .len false (.cons (.var 58) .nil))) .nil)))))))
  (.cons (.assign 62 (.comp true 0 (.prim .range1 false (.cons (.lit (.int 2)) .nil)) (.call 15 (.cons (.var 56) (.cons (.var 31) (.cons (.bin .mul (.call 14 (.cons (.var 56) (.cons (.lit (.int 3)) .nil))) (.bin .sub (.lit (.int 1)) (.var 60))) .nil)))) (.lit (.bool true))))
  (.cons (.assign 63 (.comp true 0 (.prim .range1 false (.cons (.lit (.int 2)) .nil)) (.call 15 (.cons (.var 56) (.cons (.var 31) (.cons (.bin .mul (.call 14 (.cons (.var 56) (.cons (.lit (.int 3)) .nil))) (.bin .sub (.lit (.int 1)) (.var 61))) .nil)))) (.lit (.bool true))))
  (.cons (.ite (.var 57) (.cons (.assign 30 (.bin .mul (.call 15 (.cons (.var 56) (.cons (.var 31) (.cons (.lit (.int 5)) .nil)))) (.lit (.int 13))))
  (.cons (.ite (.cmp .eq (.var 60) (.lit (.int 0))) (.cons (.pairIdx (.var 62) (.lit (.int 0)) (.var 63) (.lit (.int 0)) (.slice (.var 30) (.lit .nul) (.bin .sub (.lit (.int 63)) (.prim .len false (.cons (.bin .add (.var 20) (.var 21)) .nil)))) (.slice (.var 30) (.lit .nul) (.lit (.int 3))))
  .nil) (.cons (.ite (.cmp .eq (.var 61) (.lit (.int 0))) (.cons (.setIdx (.var 63) (.lit (.int 0)) (.var 30))
  .nil) .nil)
  .nil))
  .nil)) .nil)
  (.cons (.unpack [23, 64] (.seq true false (.cons (.bin .add (.bin .add (.bin .add (.idx (.var 62) (.lit (.int 0))) (.var 20)) (.var 21)) (.idx (.var 63) (.lit (.int 0)))) (.cons (.bin .add (.bin .add (.bin .add (.idx (.var 62) (.lit (.int 1))) (.var 20)) (.var 21)) (.idx (.var 63) (.lit (.int 1)))) .nil))))
  (.cons (.unpack [41, 65] (.seq true false (.cons (.bin .add (.bin .add (.bin .add (.bin .mul (.seq false false (.cons (.lit (.int 0)) .nil)) (.var 60)) (.var 20)) (.var 21)) (.bin .mul (.seq false false (.cons (.lit (.int 0)) .nil)) (.var 61))) (.cons (.slice (.var 23) (.lit .nul) (.lit (.int 63))) .nil))))
  (.cons (.assign 18 (.idx (.seq false false (.cons (.lit (.int 0)) (.cons (.bin .sub (.prim .len false (.cons (.var 41) .nil)) (.lit (.int 1))) (.cons (.call 14 (.cons (.var 56) (.cons (.prim .len false (.cons (.var 41) .nil)) .nil))) .nil)))) (.call 14 (.cons (.var 56) (.cons (.lit (.int 3)) .nil)))))
  (.cons (.unpack [66, 67] (.call 25 (.cons (.var 56) (.cons (.var 31) (.cons (.var 64) (.cons (.var 41) (.cons (.var 18) (.cons (.bin .sub (.prim .len false (.cons (.idx (.var 62) (.lit (.int 1))) .nil)) (.var 60)) .nil))))))))
  (.cons (.assign 49 (.idx (.seq false false (.cons (.seq true false (.cons (.lit (.int 1)) (.cons (.lit (.int 1)) .nil))) (.cons (.seq true false (.cons (.lit (.int 1)) (.cons (.lit (.int 1)) .nil))) (.cons (.seq true false (.cons (.lit (.int 2)) (.cons (.lit (.int 1)) .nil))) (.cons (.seq true false (.cons (.lit (.int 1)) (.cons (.lit (.int 2)) .nil))) (.cons (.seq true false (.cons (.lit (.int 0)) (.cons (.neg (.lit (.int 4))) .nil))) (.cons (.seq true false (.cons (.lit (.int 2)) (.cons (.lit (.int 3)) .nil))) (.cons (.seq true false (.cons (.lit (.int 1)) (.cons (.lit (.int 62)) .nil))) (.cons (.seq true false (.cons (.lit (.int 100000000000000000000)) (.cons (.lit (.int 1)) .nil))) .nil))))))))) (.call 14 (.cons (.var 56) (.cons (.lit (.int 8)) .nil)))))
  (.cons (.unpack [38, 42] (.seq true false (.cons (.call 18 (.cons (.var 37) .nil)) (.cons (.prim .len false (.cons (.bin .add (.idx (.var 62) (.lit (.int 1))) (.var 20)) .nil)) .nil))))
  (.cons (.assign 46 (.call 22 (.cons (.var 38) (.cons (.seq false false (.cons (.var 65) (.cons (.var 64) (.cons (.var 66) .nil)))) (.cons (.var 44) .nil)))))
  (.cons (.ite (.or (.isNone (.var 46) true) (.cmp .ne (.meth 12 (.var 38) (.cons (.prim .toTuple false (.cons (.var 23) .nil)) (.cons (.idx (.var 49) (.lit (.int 0))) (.cons (.idx (.var 49) (.lit (.int 1))) .nil)))) (.call 24 (.cons (.var 46) (.cons (.var 23) (.cons (.var 44) (.cons (.var 49) .nil))))))) (.cons (.ret (.lit (.bool false)))
  .nil) .nil)
  (.cons (.assign 68 (.call 21 (.cons (.var 64) (.cons (.var 42) (.cons (.var 44) .nil)))))
  (.cons (.assign 43 (.bin .sub (.lit (.int 9)) (.bin .mod (.idx (.var 46) (.call 21 (.cons (.var 66) (.cons (.bin .add (.var 42) (.var 67)) (.cons (.var 44) .nil))))) (.lit (.int 2)))))
  (.cons (.unpack [69, 70] (.seq true false (.cons (.call 18 (.cons (.call 20 (.cons (.var 37) (.cons (.var 41) (.cons (.bin .add (.var 60) (.prim .len false (.cons (.var 20) .nil))) (.cons (.var 43) .nil))))) .nil)) (.cons (.prim .dictCopy false (.cons (.var 46) .nil)) .nil))))
  (.cons (.setIdx (.var 70) (.var 68) (.var 43))
  (.cons (.assign 71 (.call 22 (.cons (.var 69) (.cons (.ite (.var 57) (.seq false false (.cons (.var 64) (.cons (.var 66) .nil))) (.seq false false (.cons (.var 65) (.cons (.var 64) (.cons (.var 66) .nil))))) (.cons (.var 44) .nil)))))
  (.cons (.ite (.or (.isNone (.var 71) true) (.cmp .ne (.compD 48 (.var 71) (.cmp .ne (.idx (.var 71) (.var 48)) (.idx (.var 70) (.var 48)))) (.seq false false .nil))) (.cons (.ret (.lit (.bool false)))
  .nil) .nil)
  (.cons (.assign 72 (.ite (.cmp .eq (.bin .mod (.idx (.var 46) (.var 68)) (.lit (.int 2))) (.lit (.int 0))) (.seq false false (.cons (.prim .len false (.cons (.bin .add (.idx (.var 62) (.lit (.int 0))) (.var 20)) .nil)) .nil)) (.seq false false .nil)))
  (.cons (.expr (.meth 10 (.var 38) (.cons (.var 65) (.cons (.var 72) .nil))))
  (.cons (.forin [22] (.seq true false (.cons (.var 23) (.cons (.var 64) (.cons (.var 66) .nil)))) (.cons (.ite (.cmp .ne (.meth 12 (.var 69) (.cons (.var 22) (.cons (.idx (.var 49) (.lit (.int 0))) (.cons (.idx (.var 49) (.lit (.int 1))) .nil)))) (.call 24 (.cons (.var 70) (.cons (.var 22) (.cons (.var 44) (.cons (.var 49) .nil)))))) (.cons (.ret (.lit (.bool false)))
  .nil) .nil)
  (.cons (.assign 47 (.ite (.cmp .eq (.slice (.var 22) (.lit .nul) (.lit (.int 63))) (.var 65)) (.comp false 0 (.call 23 (.cons (.var 22) (.cons (.var 49) .nil))) (.var 0) (.cmp .isin (.var 0) (.var 72))) (.call 24 (.cons (.var 46) (.cons (.var 22) (.cons (.var 44) (.cons (.var 49) .nil)))))))
  (.cons (.ite (.cmp .ne (.meth 12 (.var 38) (.cons (.var 22) (.cons (.idx (.var 49) (.lit (.int 0))) (.cons (.idx (.var 49) (.lit (.int 1))) .nil)))) (.var 47)) (.cons (.ret (.lit (.bool false)))
  .nil) .nil)
  .nil))))
  (.cons (.ret (.lit (.bool true)))
  .nil))))))))))))))))))))))))))))))))))))

noncomputable def prog : Prog
  | 0 => some d0
  | 1 => some d1
  | 2 => some d2
  | 3 => some d3
  | 4 => some d4
  | 5 => some d5
  | 6 => some d6
  | 7 => some d7
  | 8 => some d8
  | 9 => some d9
  | 10 => some d10
  | 11 => some d11
  | 12 => some d12
  | 13 => some d13
  | 14 => some d14
  | 15 => some d15
  | 16 => some d16
  | 17 => some d17
  | 18 => some d18
  | 19 => some d19
  | 20 => some d20
  | 21 => some d21
  | 22 => some d22
  | 23 => some d23
  | 24 => some d24
  | 25 => some d25
  | 26 => some d26
  | _ => none
end Mine
end

section
set_option autoImplicit false
namespace Mine
open PySem

structure C3 (a b c : Prop) : Prop where
  x1 : a
  x2 : b
  x3 : c
structure C4 (a b c d : Prop) : Prop where
  x1 : a
  x2 : b
  x3 : c
  x4 : d
structure C5 (a b c d e : Prop) : Prop where
  x1 : a
  x2 : b
  x3 : c
  x4 : d
  x5 : e
structure C6 (a b c d e f : Prop) : Prop where
  x1 : a
  x2 : b
  x3 : c
  x4 : d
  x5 : e
  x6 : f
theorem ex {α : Type} {p : α → Prop} {G : Prop} (h : ∃ x, p x) (k : ∀ x, p x → G) : G := let ⟨x, hx⟩ := h; k x hx

noncomputable def Has (ρ : Rho) (L : List (Nat × V)) : Prop := L.map (fun p => ρ p.1) = L.map (fun p => some p.2)
theorem upd_self {ρ : Rho} {x : Nat} {v : V} (h : ρ x = some v) : upd ρ x v = ρ := by
  funext y; unfold upd
  cases e : Nat.beq y x with
  | true => rw [Nat.eq_of_beq_eq_true e, h]; rfl
  | false => rfl
theorem updL_self {ρ : Rho} : ∀ {L : List (Nat × V)}, Has ρ L → updL ρ L = ρ
  | [], _ => rfl
  | (x, v) :: r, h => by
    injection h with h1 h2
    show upd (updL ρ r) x v = ρ
    rw [updL_self h2]; exact upd_self h1
@[elab_as_elim] theorem Has.go {G : Rho → Prop} {ρ : Rho} {L : List (Nat × V)} (h : Has ρ L) (k : G (updL ρ L)) : G ρ := updL_self h ▸ k

theorem brS {p : Prop} [Decidable p] {A B : Prop} (h1 : p → A) (h2 : ¬p → B) : brW (decide p) A B := by
  by_cases h : p
  · rw [decide_eq_true h]; exact h1 h
  · rw [decide_eq_false h]; exact h2 h
theorem brT {p : Prop} [Decidable p] {A B : Prop} (h : p) (a : A) : brW (decide p) A B := brS (fun _ => a) fun q => (q h).elim
theorem brF {p : Prop} [Decidable p] {A B : Prop} (h : ¬ p) (b : B) : brW (decide p) A B := brS (fun q => (h q).elim) fun _ => b
theorem brNT {p : Prop} [Decidable p] {A B : Prop} (h : ¬ p) (a : A) : brW (!decide p) A B := by rw [decide_eq_false h]; exact a
theorem brNF {p : Prop} [Decidable p] {A B : Prop} (h : p) (b : B) : brW (!decide p) A B := by rw [decide_eq_true h]; exact b
theorem brNS {p : Prop} [Decidable p] {A B : Prop} (h1 : ¬p → A) (h2 : p → B) : brW (!decide p) A B := by
  by_cases h : p
  · exact brNF h (h2 h)
  · exact brNT h (h1 h)
theorem brV {Q : Bool → Prop} {p q : Prop} [Decidable p] [Decidable q] {B : Prop} (h : ¬p → Q false → B) (k : Q (decide (p ∧ q))) : brW (decide p) (Q (decide q)) B := by
  by_cases hp : p
  · refine brT hp ?_
    rw [show decide q = decide (p ∧ q) from decide_eq_decide.mpr ⟨fun h => ⟨hp, h⟩, fun h => h.2⟩]; exact k
  · refine brF hp (h hp ?_)
    rw [show false = decide (p ∧ q) from (decide_eq_false fun h => hp h.1).symm]; exact k

theorem ints_eq {a b : List Int} (h : iv a = iv b) : a = b := by
  induction a generalizing b with
  | nil => cases b with | nil => rfl | cons _ _ => cases h
  | cons x r ih => cases b with
    | nil => cases h
    | cons y s => injection h with h1 h2; injection h1 with h1; rw [h1, ih h2]
theorem getElem?_iv {xs : List Int} {i : Nat} {v : V} : (iv xs)[i]? = some v ↔ ∃ x, xs[i]? = some x ∧ v = .int x := by
  simp only [iv, List.getElem?_map, Option.map_eq_some_iff]
  exact ⟨fun ⟨x, h, e⟩ => ⟨x, h, e.symm⟩, fun ⟨x, h, e⟩ => ⟨x, h, e.symm⟩⟩
theorem iv_at {xs : List Int} {i : Nat} {x : Int} (h : xs[i]? = some x) : (iv xs)[i]? = some (.int x) := getElem?_iv.mpr ⟨x, h, rfl⟩
theorem iv_len (xs : List Int) : (iv xs).length = xs.length := List.length_map _
theorem iv_app (xs ys : List Int) : iv xs ++ iv ys = iv (xs ++ ys) := List.map_append.symm
theorem iv_snoc (xs : List Int) (y : Int) : iv xs ++ [.int y] = iv (xs ++ [y]) := iv_app xs [y]
@[elab_as_elim] theorem at_iv {G : V → Prop} {xs : List Int} {i : Nat} {v : V} (h : (iv xs)[i]? = some v) (k : ∀ x, xs[i]? = some x → G (.int x)) : G v := by
  obtain ⟨x, hx, rfl⟩ := getElem?_iv.mp h
  exact k x hx
@[elab_as_elim] theorem at_map {α : Type} {G : V → Prop} {f : α → V} {xs : List α} {i : Nat} {v : V} (h : (xs.map f)[i]? = some v) (k : ∀ x, xs[i]? = some x → G (f x)) : G v := by
  rw [List.getElem?_map] at h
  obtain ⟨x, hx, rfl⟩ := Option.map_eq_some_iff.mp h
  exact k x hx

theorem idxOf_nn {n j : Nat} {k : Int} (h0 : k = j) (h : j < n) : idxOf n k = some j := by
  subst h0; unfold idxOf; rw [if_pos ⟨by omega, by omega⟩]; rfl
theorem idxOf_last {n : Nat} (h : 0 < n) : idxOf n (-1) = some (n - 1) := by
  unfold idxOf; rw [if_neg (by omega), if_pos ⟨by omega, by omega⟩]; congr 1; omega
theorem lt_at {α : Type} {xs : List α} {i : Nat} {a : α} (h : xs[i]? = some a) : i < xs.length := (List.getElem?_eq_some_iff.mp h).1

section
variable {σ : St} {Q : V → Prop}
theorem ix_seq {t : Bool} {xs : List V} {n : Int} {j : Nat} {v : V} (hv : xs[j]? = some v) (hn : n = j) (q : Q v) : indexW σ (.seq t xs) (.int n) Q := by unfold indexW; exact ⟨j, v, idxOf_nn hn (lt_at hv), hv, q⟩
theorem ix_list {r : Nat} {xs : List V} {n : Int} {j : Nat} {v : V} (hr : σ[r]? = some (.list xs)) (hv : xs[j]? = some v) (hn : n = j) (q : Q v) : indexW σ (.ref r) (.int n) Q := by unfold indexW; exact .inl ⟨xs, hr, j, v, idxOf_nn hn (lt_at hv), hv, q⟩
theorem ix_dict {r : Nat} {es : List (K × V)} {k : V} {k' : K} {v : V} (hr : σ[r]? = some (.dict es)) (hs : sameKind k' es = true) (h : look k' es = some v) (hk : ∀ G : K → Prop, G k' → keyW k G) (q : Q v) : indexW σ (.ref r) k Q := by unfold indexW; exact .inr ⟨es, hr, hk _ ⟨v, hs, h, q⟩⟩
theorem ix_iv {t : Bool} {xs : List Int} {n : Int} {j : Nat} {x : Int} (hx : xs[j]? = some x) (hn : n = j) (q : Q (.int x)) : indexW σ (.seq t (iv xs)) (.int n) Q := ix_seq (iv_at hx) hn q
theorem ix_last {t : Bool} {xs : List V} {v : V} (hx : xs.getLast? = some v) (q : Q v) : indexW σ (.seq t xs) (.int (-1)) Q := by
  rw [List.getLast?_eq_getElem?] at hx
  have := lt_at hx
  unfold indexW
  exact ⟨_, v, idxOf_last (by omega), hx, q⟩
theorem ix_ivlast {t : Bool} {xs : List Int} {x : Int} (hx : xs.getLast? = some x) (q : Q (.int x)) : indexW σ (.seq t (iv xs)) (.int (-1)) Q := ix_last (by rw [iv, List.getLast?_map, hx]; rfl) q

theorem clampLo_nn {n : Nat} {i : Int} (h : 0 ≤ i) : clampLo n i = min i.toNat n := by unfold clampLo; rw [if_neg (by omega)]
theorem cut_min {xs : List V} (a b : Nat) : (xs.take (min b xs.length)).drop (min a xs.length) = (xs.take b).drop a := by
  rw [← List.take_eq_take_min]
  by_cases h : a ≤ xs.length
  · rw [Nat.min_eq_left h]
  · rw [Nat.min_eq_right (by omega), List.drop_eq_nil_of_le (by rw [List.length_take]; omega), List.drop_eq_nil_of_le (by rw [List.length_take]; omega)]
structure Cut (xs : List V) (lo hi : V) (ys : List V) : Prop where
  go : ∀ {R : V → Prop}, R (.seq false ys) → boundW xs.length 0 lo fun l => boundW xs.length xs.length hi fun h => R (.seq false ((xs.take h).drop l))
theorem Cut.ii {xs : List V} {a b : Int} (ha : 0 ≤ a) (hb : 0 ≤ b) : Cut xs (.int a) (.int b) ((xs.take b.toNat).drop a.toNat) := ⟨fun {R} q => by
  show R (.seq false ((xs.take (clampLo _ b)).drop (clampLo _ a)))
  rw [clampLo_nn ha, clampLo_nn hb, cut_min]; exact q⟩
theorem Cut.ni {xs : List V} {b : Int} (hb : 0 ≤ b) : Cut xs .nul (.int b) (xs.take b.toNat) := ⟨fun {R} q => by
  show R (.seq false ((xs.take (clampLo _ b)).drop 0))
  rw [clampLo_nn hb, List.drop_zero, ← List.take_eq_take_min]; exact q⟩
theorem Cut.in {xs : List V} {a : Int} (ha : 0 ≤ a) : Cut xs (.int a) .nul (xs.drop a.toNat) := ⟨fun {R} q => by
  show R (.seq false ((xs.take xs.length).drop (clampLo _ a)))
  have := cut_min (xs := xs) a.toNat xs.length
  rw [Nat.min_self, List.take_length] at this
  rw [clampLo_nn ha, List.take_length, this]; exact q⟩
theorem Cut.im {xs : List V} {a : Int} (ha : 0 ≤ a) : Cut xs (.int a) (.int (-1)) ((xs.take (xs.length - 1)).drop a.toNat) := ⟨fun {R} q => by
  show R (.seq false ((xs.take (clampLo _ (-1))).drop (clampLo _ a)))
  have := cut_min (xs := xs) a.toNat (xs.length - 1)
  rw [show min (xs.length - 1) xs.length = xs.length - 1 by omega] at this
  rw [show clampLo xs.length (-1) = xs.length - 1 by unfold clampLo; rw [if_pos (by omega)]; omega, clampLo_nn ha, this]; exact q⟩
theorem sl_seq {xs ys : List V} {lo hi : V} (h : Cut xs lo hi ys) (q : Q (.seq false ys)) : sliceW σ (.seq false xs) lo hi Q := by unfold sliceW; exact h.go q
theorem sl_list {r : Nat} {xs ys : List V} {lo hi : V} (hr : σ[r]? = some (.list xs)) (h : Cut xs lo hi ys) (q : Q (.seq false ys)) : sliceW σ (.ref r) lo hi Q := by unfold sliceW; exact ⟨xs, hr, h.go q⟩
theorem sl_tup {xs : List V} {b : Int} (hb : 0 ≤ b) (q : Q (.seq true (xs.take b.toNat))) : sliceW σ (.seq true xs) .nul (.int b) Q := by unfold sliceW; exact ⟨rfl, hb, q⟩
theorem eq_iv {Q : Bool → Prop} {x y : List Int} (q : Q (decide (x = y))) : eqL (iv x) (iv y) Q := by unfold eqL; exact ⟨x, y, rfl, rfl, q⟩
theorem in_iv {Q : Bool → Prop} {x : Int} {y : List Int} (q : Q (decide (x ∈ y))) : inI x (iv y) Q := by unfold inI; exact ⟨y, rfl, q⟩
theorem in_lv {Q : Bool → Prop} {x : List Int} {y : List (List Int)} (q : Q (decide (x ∈ y))) : inL (iv x) (lv y) Q := by unfold inL; exact ⟨x, y, rfl, rfl, q⟩
end

theorem rep_iv (n : Nat) (xs : List Int) : rep n (iv xs) = iv ((List.replicate n xs).flatten) := by
  induction n with
  | zero => rfl
  | succ n ih => show iv xs ++ rep n (iv xs) = _; rw [ih]; simp [List.replicate_succ]
theorem rep_one (n : Nat) (v : V) : rep n [v] = List.replicate n v := by
  induction n with
  | zero => rfl
  | succ n ih => show [v] ++ rep n [v] = _; rw [ih]; rfl
noncomputable def rangeI (lo : Int) (n : Nat) : List Int := (List.range n).map fun i => lo + (i : Nat)
theorem intRange_eq (n : Nat) : ∀ lo : Int, intRange lo n = iv (rangeI lo n) := by
  induction n with
  | zero => intro lo; rfl
  | succ n ih =>
    intro lo
    show V.int lo :: intRange (lo + 1) n = _
    rw [ih]
    unfold rangeI
    rw [List.range_succ_eq_map]
    simp only [List.map_cons, List.map_map, iv]
    congr 1
    · congr 1; simp
    · apply List.map_congr_left; intro a _; simp only [Function.comp_apply]; congr 1; omega
theorem mem_rangeI {lo x : Int} {n : Nat} : x ∈ rangeI lo n ↔ lo ≤ x ∧ x < lo + n := by
  unfold rangeI
  simp only [List.mem_map, List.mem_range]
  constructor
  · rintro ⟨i, h, rfl⟩; omega
  · rintro ⟨h1, h2⟩; exact ⟨(x - lo).toNat, by omega, by omega⟩
theorem length_rangeI {lo : Int} {n : Nat} : (rangeI lo n).length = n := by simp [rangeI]
theorem rangeI_at {lo x : Int} {n i : Nat} (h : (rangeI lo n)[i]? = some x) : i < n ∧ x = lo + i := by
  have hl := lt_at h
  rw [length_rangeI] at hl
  unfold rangeI at h
  rw [List.getElem?_map, List.getElem?_range hl] at h
  injection h with h
  exact ⟨hl, h.symm⟩
theorem ov_seq {σ : St} {t : Bool} {xs : List V} {K : List V → Prop} (q : K xs) : overW σ (.seq t xs) K := by unfold overW; exact q
theorem ov_list {σ : St} {r : Nat} {xs : List V} {K : List V → Prop} (h : σ[r]? = some (.list xs)) (q : K xs) : overW σ (.ref r) K := by unfold overW; exact ⟨xs, h, q⟩
theorem small_of {n : Int} (h1 : -1000000 < n) (h2 : n < 1000000) : small n = true := by
  unfold small; simp only [Bool.and_eq_true, decide_eq_true_eq]; omega
theorem small2 {m n : Int} (h1 : -1000000 < m) (h2 : m < 1000000) (h3 : -1000000 < n) (h4 : n < 1000000) : (small m && small n) = true := by rw [small_of h1 h2, small_of h3 h4]; rfl
theorem word_of {n : Int} (h1 : -1000000 < n) (h2 : n < 1000000) : word n = true := by
  unfold word; simp only [Bool.and_eq_true, decide_eq_true_eq]; omega
theorem ov_rng {σ : St} {lo hi : Int} {K : List V → Prop} (n : Nat) (h : (small lo && small hi) = true) (hn : (hi - lo).toNat = n) (q : K (iv (rangeI lo n))) : overW σ (.rng lo hi) K := by
  unfold overW
  exact ⟨h, by rw [hn, intRange_eq]; exact q⟩
theorem ov_rng0 {σ : St} {hi : Int} {K : List V → Prop} (n : Nat) (hn : hi = n) (h : n < 1000000) (q : K (iv (rangeI 0 n))) : overW σ (.rng 0 hi) K := by
  have := small_of (n := hi) (by omega) (by omega)
  exact ov_rng n (by rw [this]; rfl) (by omega) q
theorem small_nat {n : Int} (m : Nat) (hm : n = m) (h : m < 1000000) : small n = true := small_of (by omega) (by omega)
theorem loop {cal : PC} {xs : List Nat} {items : List V} {body : SX} {xv : V} {ρ : Rho} {σ : St} {Q : Fl → Rho → St → Prop} (P : Nat → Rho → St → Prop) (h0 : P 0 ρ σ)
    (turn : ∀ i v ρ' σ', items[i]? = some v → P i ρ' σ' → bindW xs v ρ' fun ρ₁ => body cal ρ₁ σ' fun f ρ₂ σ₂ => forW f (stillP σ σ₂ xv ∧ P (i + 1) ρ₂ σ₂) (Q .next ρ₂ σ₂) fun v => Q (.ret v) ρ₂ σ₂)
    (fin : ∀ ρ' σ', P items.length ρ' σ' → Q .next ρ' σ') : LoopW cal xs items body xv ρ σ Q := ⟨P, h0, turn, fin⟩
theorem LIM_is : LIM = 100000 := rfl
theorem lim {n : Nat} (h : n ≤ 1000) : n ≤ LIM := Nat.le_trans h (by decide)
theorem lim' {n : Nat} (h : n ≤ 1000) : n < LIM := Nat.lt_of_le_of_lt h (by decide)
theorem ll {n : Nat} (h : Nat.ble n LIM = true) : n ≤ LIM := Nat.le_of_ble_eq_true h
theorem stillP_self (σ : St) (v : V) : stillP σ σ v := by cases v <;> first | exact trivial | rfl
end Mine
end

section
set_option autoImplicit false
namespace Mine
open PySem

structure Pat (f b w e : List Int) : Prop where
  eq : f = b ++ w ++ e
  b : b = [] ∨ b = [0]
  e : e = [] ∨ e = [0]
  ne : w ≠ []
  word : ∀ l ∈ w, 1 ≤ l ∧ l ≤ 255
  short : f.length ≤ 63

theorem Pat.len {f b w e : List Int} (h : Pat f b w e) : 0 < f.length := by
  have := List.length_pos_iff.mpr h.ne
  rw [h.eq]; simp; omega
theorem Pat.ne' {f b w e : List Int} (h : Pat f b w e) : f ≠ [] := List.length_pos_iff.mp h.len
theorem Pat.letters {f b w e : List Int} (h : Pat f b w e) : ∀ l ∈ f, 0 ≤ l ∧ l ≤ 255 := by
  intro l hl
  rw [h.eq] at hl
  simp only [List.mem_append] at hl
  have z : ∀ {u : List Int}, u = [] ∨ u = [0] → l ∈ u → l = 0 := fun {u} hu hl => by rcases hu with rfl | rfl <;> simpa using hl
  rcases hl with (hl | hl) | hl
  · rw [z h.b hl]; decide
  · exact ⟨Int.le_trans (by decide) (h.word l hl).1, (h.word l hl).2⟩
  · rw [z h.e hl]; decide
theorem Pat.first {f b w e : List Int} (h : Pat f b w e) : ∃ x, f[0]? = some x ∧ ((x = 0 ∧ b = [0]) ∨ (1 ≤ x ∧ b = [])) := by
  rcases h.b with hb | hb
  · cases hw : w with
    | nil => exact (h.ne hw).elim
    | cons x r => exact ⟨x, by rw [h.eq, hb, hw]; rfl, .inr ⟨(h.word x (by simp [hw])).1, hb⟩⟩
  · exact ⟨0, by rw [h.eq, hb]; rfl, .inl ⟨rfl, hb⟩⟩
theorem Pat.last {f b w e : List Int} (h : Pat f b w e) : ∃ x, f.getLast? = some x ∧ ((x = 0 ∧ e = [0]) ∨ (1 ≤ x ∧ e = [])) := by
  rcases h.e with hb | hb
  · refine ⟨w.getLast h.ne, ?_, .inr ⟨(h.word _ (List.getLast_mem h.ne)).1, hb⟩⟩
    have := List.getLast?_eq_some_getLast h.ne
    rw [← this, h.eq, hb, List.append_nil, List.getLast?_append, this]; rfl
  · exact ⟨0, by rw [h.eq, hb, List.getLast?_append]; rfl, .inl ⟨rfl, hb⟩⟩
theorem Pat.lens {f b w e : List Int} (h : Pat f b w e) : f.length = b.length + w.length + e.length := by rw [h.eq]; simp only [List.length_append]

section
variable {n : Nat} {σ : St} {Q : V → St → Prop}

theorem whole_run {x lo hi : Int} (k : Q (.bool (decide (lo ≤ x ∧ x ≤ hi))) σ) : Cl (runW prog (n + 1)) 1 [.int x, .int lo, .int hi] σ Q :=
  Cl.go d1 rfl rfl (brV (Q := fun b => Q (.bool b) σ) (fun _ h => h) k)
theorem check_run {x : Int} (k : Q (.int x) σ) : Cl (runW prog (n + 1)) 2 [.int x] σ Q := Cl.go d2 rfl rfl (Lk.mk k)
theorem least_run {x : Int} (k : Q (.int (max 1 (min 63 x))) σ) : Cl (runW prog (n + 2)) 7 [.int x] σ Q := Cl.go d7 rfl rfl (check_run k)

theorem word_run {t : Bool} {w : List Int} (h0 : w ≠ []) (h : ∀ l ∈ w, 1 ≤ l ∧ l ≤ 255) (k : Q (.bool true) σ) : Cl (runW prog (n + 2)) 3 [.seq t (iv w)] σ Q := by
  refine Cl.go d3 rfl rfl ?_
  refine brF (fun e => h0 ?_) ?_
  · rw [iv_len] at e; exact List.length_eq_zero_iff.mp (Int.ofNat_eq_zero.mp e)
  refine Lk.mk (ov_seq ?_)
  refine Exists.intro (fun _ _ σ' => σ' = σ) ⟨rfl, ?_, ?_⟩
  · intro i v ρ σ' hv hP
    refine at_iv hv fun x hx => ?_
    refine whole_run ?_
    refine brNF (h x (List.mem_of_getElem? hx)) ?_
    exact And.intro trivial hP
  · intro ρ σ' hP
    subst hP
    exact Lk.mk k

theorem inner_run {f b w e : List Int} (h : Pat f b w e) (k : Q (.seq false (iv w)) σ) : Cl (runW prog (n + 1)) 4 [.seq false (iv f)] σ Q := by
  obtain ⟨x, hx, hx'⟩ := h.first
  obtain ⟨y, hy, hy'⟩ := h.last
  have hw := List.length_pos_iff.mpr h.ne
  have hfl := h.lens
  have hl : (iv f).length = f.length := iv_len f
  refine Cl.go d4 rfl rfl ?_
  refine And.intro (ll rfl) ?_
  refine Lk.mk ?_
  have fin : ∀ (ρ : Rho) (bb ee : Int), Has ρ [(6, .seq false (iv f)), (8, .int bb), (9, .int ee)] → bb = b.length → ee = (b.length + w.length : Nat) → Lk (Exs (drp 3 d4.2) (runW prog n) ρ σ (RetQ Q)) := by
    intro ρ bb ee hρ hb he
    refine hρ.go ?_
    refine Lk.mk ?_
    refine sl_seq (Cut.ii (by omega) (by omega)) ?_
    subst hb he
    rw [iv, ← List.map_take, ← List.map_drop, h.eq, Int.toNat_natCast, Int.toNat_natCast, List.take_append_of_le_length (by simp), ← List.length_append, List.take_length, List.drop_left]
    exact k
  have key : ∀ (ρ : Rho) (bb : Int), Has ρ [(6, .seq false (iv f)), (8, .int bb), (9, .int (iv f).length)] → bb = b.length → Lk (Exs (drp 2 d4.2) (runW prog n) ρ σ (RetQ Q)) := by
    intro ρ bb hρ hb
    refine hρ.go ?_
    refine Lk.mk ?_
    refine brT (show ((iv f).length : Int) > bb by omega) ?_
    rw [List.getLast?_eq_getElem?] at hy
    refine ix_iv hy (show ((iv f).length : Int) - 1 = (f.length - 1 : Nat) by omega) ?_
    rcases hy' with ⟨h1, h2⟩ | ⟨h1, h2⟩
    · refine brT h1 ?_
      exact fin _ _ _ (by rfl) hb (show ((iv f).length : Int) - 1 = (b.length + w.length : Nat) by rw [h2] at hfl; simp at hfl; omega)
    · refine brF (by omega) ?_
      exact fin _ _ _ (by rfl) hb (by rw [h2] at hfl; simp at hfl; omega)
  refine brT (show ((iv f).length : Int) > 0 by omega) ?_
  refine ix_iv hx rfl ?_
  rcases hx' with ⟨h1, h2⟩ | ⟨h1, h2⟩
  · refine brT h1 ?_
    exact key _ _ (by rfl) (by rw [h2]; rfl)
  · refine brF (by omega) ?_
    exact key _ _ (by rfl) (by rw [h2]; rfl)
end
end Mine
end

section
set_option autoImplicit false
namespace Mine
open PySem

theorem snoc_rec {α : Type} {P : List α → Prop} (h0 : P []) (h1 : ∀ w l, P w → P (w ++ [l])) (w : List α) : P w := by
  have : ∀ u : List α, P u.reverse := by
    intro u
    induction u with
    | nil => exact h0
    | cons a r ih => rw [List.reverse_cons]; exact h1 _ _ ih
  rw [← List.reverse_reverse w]; exact this _

noncomputable def Items (σ : St) (v : V) (xs : List V) : Prop := v = .seq false xs ∨ ∃ r, v = .ref r ∧ σ[r]? = some (.list xs)
section
variable {σ : St} {v : V} {xs : List V}
theorem Items.go {K : List V → Prop} (h : Items σ v xs) (q : K xs) : itemsW σ v K := by
  rcases h with rfl | ⟨r, rfl, h⟩
  · exact q
  · exact ⟨xs, h, q⟩
theorem Items.over {K : List V → Prop} (h : Items σ v xs) (q : K xs) : overW σ v K := by
  rcases h with rfl | ⟨r, rfl, h⟩
  · exact ov_seq q
  · exact ov_list h q
theorem Items.isSeq {K : Prop} (h : Items σ v xs) (q : K) : isSeqW σ v K := by
  rcases h with rfl | ⟨r, rfl, h⟩
  · exact q
  · exact ⟨xs, h, q⟩
theorem Items.index {j : Nat} {u : V} {n : Int} {Q : V → Prop} (h : Items σ v xs) (hv : xs[j]? = some u) (hn : n = j) (q : Q u) : indexW σ v (.int n) Q := by
  rcases h with rfl | ⟨r, rfl, h⟩
  · exact ix_seq hv hn q
  · exact ix_list h hv hn q
theorem Items.slice {lo hi : V} {ys : List V} {Q : V → Prop} (h : Items σ v xs) (c : Cut xs lo hi ys) (q : Q (.seq false ys)) : sliceW σ v lo hi Q := by
  rcases h with rfl | ⟨r, rfl, h⟩
  · exact sl_seq c q
  · exact sl_list h c q
end

noncomputable abbrev CutI (xs : List Int) (lo hi : V) (ys : List Int) : Prop := Cut (iv xs) lo hi (iv ys)
section
variable {xs : List Int}
theorem CutI.ii {x y : Int} {a b : Nat} (hx : x = a) (hy : y = b) : CutI xs (.int x) (.int y) ((xs.take b).drop a) := by
  subst hx hy
  have := Cut.ii (xs := iv xs) (a := (a : Int)) (b := (b : Int)) (Int.natCast_nonneg _) (Int.natCast_nonneg _)
  rw [Int.toNat_natCast, Int.toNat_natCast, iv, ← List.map_take, ← List.map_drop] at this
  exact this
theorem CutI.ni {y : Int} {b : Nat} (hy : y = b) : CutI xs .nul (.int y) (xs.take b) := by
  subst hy
  have := Cut.ni (xs := iv xs) (b := (b : Int)) (Int.natCast_nonneg _)
  rw [Int.toNat_natCast, iv, ← List.map_take] at this
  exact this
theorem CutI.in {x : Int} {a : Nat} (hx : x = a) : CutI xs (.int x) .nul (xs.drop a) := by
  subst hx
  have := Cut.in (xs := iv xs) (a := (a : Int)) (Int.natCast_nonneg _)
  rw [Int.toNat_natCast, iv, ← List.map_drop] at this
  exact this
theorem CutI.im {x : Int} {a : Nat} (hx : x = a) : CutI xs (.int x) (.int (-1)) ((xs.take (xs.length - 1)).drop a) := by
  subst hx
  have := Cut.im (xs := iv xs) (a := (a : Int)) (Int.natCast_nonneg _)
  rw [Int.toNat_natCast, iv_len, iv, ← List.map_take, ← List.map_drop] at this
  exact this
end
theorem add_iv {xs ys : List V} {Q : V → Prop} (a b : List Int) (hx : xs = iv a) (hy : ys = iv b) (h : a.length + b.length ≤ 1000) (q : Q (.seq false (iv (a ++ b)))) : addL xs ys Q := by
  subst hx hy
  unfold addL
  refine ⟨?_, ?_⟩
  · rw [iv_len, iv_len]; exact lim h
  · rw [iv, iv, ← List.map_append]; exact q
theorem mul_iv {xs : List V} {Q : V → Prop} {m : Int} (x : Int) (b : Nat) (hx : xs = [.int x]) (hm : m = b) (h : b < 1000) (q : Q (.seq false (iv (List.replicate b x)))) : mulL xs m Q := by
  subst hx hm
  unfold mulL
  refine ⟨⟨?_, Int.natCast_nonneg _, by omega⟩, ?_⟩
  · rw [Int.toNat_natCast]; exact lim (by simp; omega)
  · rw [Int.toNat_natCast, rep_one, ← List.map_replicate]; exact q

section
variable {n : Nat} {σ : St} {Q : V → St → Prop}
theorem pattern_run {f b w e ds : List Int} {dv : V} (h : Pat f b w e) (hd : Items σ dv (iv ds)) (hl : ds.length = f.length + 1) (hr : ∀ d ∈ ds, 0 ≤ d ∧ d ≤ 9) (k : Q .nul σ) :
    Cl (runW prog (n + 3)) 5 [.seq false (iv f), dv] σ Q := by
  refine Cl.go d5 rfl rfl ?_
  refine hd.isSeq ?_
  refine Lk.mk (ov_seq ?_)
  refine Exists.intro (fun _ ρ' σ' => σ' = σ ∧ Has ρ' [(6, .seq false (iv f)), (10, dv)]) ⟨⟨rfl, rfl⟩, ?_, ?_⟩
  · intro i v ρ σ' hv hP
    refine at_iv hv fun x hx => ?_
    refine whole_run ?_
    refine brNF (h.letters x (List.mem_of_getElem? hx)) ?_
    exact And.intro trivial hP
  intro ρ σ' hP
  obtain ⟨rfl, hρ⟩ := hP
  refine hρ.go ?_
  refine Lk.mk (inner_run h (word_run h.ne h.word ?_))
  refine Lk.mk (brF (fun e => ?_) ?_)
  · rw [iv_len] at e; exact Int.not_lt.mpr (Int.ofNat_le.mpr h.short) e
  refine Lk.mk (hd.go (brNF ?_ ?_))
  · rw [iv_len, iv_len, hl]; rfl
  refine Lk.mk (hd.over ?_)
  refine Exists.intro (fun _ _ σ'' => σ'' = σ') ⟨rfl, ?_, ?_⟩
  · intro i v ρ σ' hv hP
    refine at_iv hv fun x hx => ?_
    refine whole_run ?_
    refine brNF (hr x (List.mem_of_getElem? hx)) ?_
    subst hP
    exact And.intro (stillP_self _ _) rfl
  · intro ρ σ' hP
    subst hP
    exact k

noncomputable def wkey (w : List Int) : Int := w.foldl (fun a l => 256 * a + l) 0
theorem wkey_snoc (w : List Int) (l : Int) : wkey (w ++ [l]) = 256 * wkey w + l := by simp only [wkey, List.foldl_append, List.foldl_cons, List.foldl_nil]
theorem take_snoc {α : Type} {xs : List α} {i : Nat} {x : α} (h : xs[i]? = some x) : xs.take (i + 1) = xs.take i ++ [x] := by rw [List.take_add_one, h]; rfl
theorem take_all {α β : Type} {f : α → β} (xs : List α) : xs.take (xs.map f).length = xs := by rw [List.length_map, List.take_length]
theorem key_run {t : Bool} {w : List Int} (k : Q (.int (wkey w)) σ) : Cl (runW prog (n + 1)) 6 [.seq t (iv w)] σ Q := by
  refine Cl.go d6 rfl rfl (Lk.mk (ov_seq ?_))
  refine Exists.intro (fun i ρ' σ' => σ' = σ ∧ Has ρ' [(12, .int (wkey (w.take i)))]) ⟨⟨rfl, rfl⟩, ?_, ?_⟩
  · intro i v ρ σ' hv hP
    refine at_iv hv fun x hx => ?_
    refine hP.2.go ?_
    refine And.intro rfl ?_
    refine And.intro trivial ⟨hP.1, ?_⟩
    rw [take_snoc hx, wkey_snoc]; rfl
  · intro ρ σ' hP
    rw [take_all] at hP
    refine hP.2.go ?_
    rw [hP.1]
    exact Lk.mk k
theorem wkey_nonneg (w : List Int) : (∀ l ∈ w, 1 ≤ l ∧ l ≤ 255) → 0 ≤ wkey w := by
  refine snoc_rec (P := fun w => (∀ l ∈ w, 1 ≤ l ∧ l ≤ 255) → 0 ≤ wkey w) (fun _ => by decide) (fun w l ih h => ?_) w
  have h1 := ih fun x hx => h x (List.mem_append_left _ hx)
  have h2 := (h l (List.mem_append_right _ List.mem_cons_self)).1
  rw [wkey_snoc]; omega
theorem wkey_inj (w w' : List Int) : (∀ l ∈ w, 1 ≤ l ∧ l ≤ 255) → (∀ l ∈ w', 1 ≤ l ∧ l ≤ 255) → wkey w = wkey w' → w = w' := by
  have base : ∀ (w : List Int) (l : Int), (∀ x ∈ w ++ [l], 1 ≤ x ∧ x ≤ 255) → wkey (w ++ [l]) ≠ 0 := fun w l h e => by
    have h1 := wkey_nonneg w fun x hx => h x (List.mem_append_left _ hx)
    have h2 := (h l (List.mem_append_right _ List.mem_cons_self)).1
    rw [wkey_snoc] at e
    omega
  revert w'
  refine snoc_rec (P := fun w => ∀ w', (∀ l ∈ w, 1 ≤ l ∧ l ≤ 255) → (∀ l ∈ w', 1 ≤ l ∧ l ≤ 255) → wkey w = wkey w' → w = w') ?_ (fun w l ih => ?_) w
  · refine snoc_rec (fun _ _ _ => rfl) fun w' l' _ _ h' e => (base w' l' h' e.symm).elim
  · refine snoc_rec (fun h _ e => (base w l h e).elim) fun w' l' _ h h' e => ?_
    have h2 := h l (List.mem_append_right _ List.mem_cons_self)
    have h3 := h' l' (List.mem_append_right _ List.mem_cons_self)
    rw [wkey_snoc, wkey_snoc] at e
    have el : l = l' ∧ wkey w = wkey w' := by omega
    rw [el.1, ih w' (fun x hx => h x (List.mem_append_left _ hx)) (fun x hx => h' x (List.mem_append_left _ hx)) el.2]

noncomputable def BoxAt (σ : St) (b : Nat) : Prop := ∃ x y : Int, σ[b]? = some (.list [.int x, .int y])
noncomputable def Bd (b : Nat) (σ σ' : St) : Prop := ∃ x y : Int, σ' = σ.set b (.list [.int x, .int y])
theorem BoxAt.lt {b : Nat} (h : BoxAt σ b) : b < σ.length := let ⟨_, _, e⟩ := h; lt_at e
theorem Bd.refl {b : Nat} (h : BoxAt σ b) : Bd b σ σ := by
  obtain ⟨x, y, e⟩ := h
  obtain ⟨h1, h2⟩ := List.getElem?_eq_some_iff.mp e
  exact ⟨x, y, by rw [← h2, List.set_getElem_self]⟩
theorem Bd.trans {b : Nat} {σ' σ'' : St} (h : Bd b σ σ') (g : Bd b σ' σ'') : Bd b σ σ'' := by
  obtain ⟨x, y, rfl⟩ := h
  obtain ⟨x', y', rfl⟩ := g
  exact ⟨x', y', by rw [List.set_set]⟩
theorem Bd.len {b : Nat} {σ' : St} (h : Bd b σ σ') : σ'.length = σ.length := by obtain ⟨x, y, rfl⟩ := h; exact List.length_set
theorem Bd.box {b : Nat} {σ' : St} (h : Bd b σ σ') (k : BoxAt σ b) : BoxAt σ' b := by
  obtain ⟨x, y, rfl⟩ := h
  exact ⟨x, y, List.getElem?_set_self k.lt⟩
theorem Bd.at {b i : Nat} {σ' : St} (h : Bd b σ σ') (hi : i ≠ b) : σ'[i]? = σ[i]? := by
  obtain ⟨x, y, rfl⟩ := h
  exact List.getElem?_set_ne (Ne.symm hi)
theorem Bd.box' {b c : Nat} {σ' : St} (h : Bd b σ σ') (k : BoxAt σ b) (kc : BoxAt σ c) : BoxAt σ' c := by
  by_cases e : c = b
  · subst e; exact h.box k
  · obtain ⟨x, y, q⟩ := kc; exact ⟨x, y, by rw [h.at e]; exact q⟩

theorem take_run {b : Nat} {m : Int} (h : BoxAt σ b) (hm : 0 < m) (hm' : m < 1000) (k : ∀ d σ', 0 ≤ d → d < m → Bd b σ σ' → Q (.int d) σ') : Cl (runW prog (n + 1)) 14 [.ref b, .int m] σ Q := by
  obtain ⟨x, y, hb⟩ := h
  have kk : ∀ a σ', Bd b σ σ' → Q (.int (a % m)) σ' := fun a σ' h => k _ _ (Int.emod_nonneg _ (Int.ne_of_gt hm)) (Int.emod_lt_of_pos _ hm) h
  have st : ∀ {j : Nat} {v : V} {K : St → Prop} {i : Int}, i = j → j < 2 → K (σ.set b (.list ([V.int x, V.int y].set j v))) → setIdxW σ (.ref b) (.int i) v K := fun hi hj q => by
    unfold setIdxW
    exact .inl ⟨_, hb, _, _, idxOf_nn hi hj, List.getElem?_eq_getElem hj, q⟩
  refine Cl.go d14 rfl rfl ?_
  refine ix_list hb (j := 0) rfl rfl ?_
  refine brS (fun h => ?_) fun h => ?_
  · refine ix_list hb (j := 0) rfl rfl (And.intro hm (Lk.mk ?_))
    refine ix_list hb (j := 0) rfl rfl (And.intro ⟨hm, Int.lt_trans hm' (by decide)⟩ ?_)
    refine st (j := 0) rfl (by decide) (Lk.mk ?_)
    exact kk _ _ ⟨_, _, rfl⟩
  · refine Lk.mk (ix_list hb (j := 1) rfl rfl (And.intro (Bool.or_true _) (And.intro (by decide) ?_)))
    refine st (j := 1) rfl (by decide) (Lk.mk ?_)
    refine ix_list (List.getElem?_set_self (lt_at hb)) (j := 1) rfl rfl (And.intro ⟨by decide, by decide⟩ (And.intro hm ?_))
    exact kk _ _ ⟨_, _, rfl⟩

theorem comp_filter {cal : PC} {ρ : Rho} {x : Nat} {cond elt : SE} {xv : V} {ks : List Int} {Q' : List V → St → Prop} (c : Int → Bool) (hl : ks.length ≤ 1000)
    (h : ∀ k ∈ ks, ∀ G : V → St → Prop, G (.bool (c k)) σ → cond cal (upd ρ x (.int k)) σ G) (he : ∀ (k : Int) (G : V → St → Prop), G (.int k) σ → elt cal (upd ρ x (.int k)) σ G) (hs : stillP σ σ xv) (q : Q' (iv (ks.filter c)) σ) :
    ∃ P : Nat → List V → St → Prop, (iv ks).length ≤ LIM ∧ P 0 [] σ ∧
      (∀ i v acc σ', (iv ks)[i]? = some v → P i acc σ' → cond cal (upd ρ x v) σ' fun c σ'' => boolW c fun b => brW b (elt cal (upd ρ x v) σ'' fun u σ₃ => stillP σ σ₃ xv ∧ P (i + 1) (acc ++ [u]) σ₃) (stillP σ σ'' xv ∧ P (i + 1) acc σ'')) ∧
      ∀ acc σ', P (iv ks).length acc σ' → Q' acc σ' := by
  refine ⟨fun i acc σ' => acc = iv ((ks.take i).filter c) ∧ σ' = σ, by rw [iv_len]; exact lim hl, ⟨rfl, rfl⟩, ?_, ?_⟩
  · rintro i v acc _ hv ⟨rfl, rfl⟩
    refine at_iv hv fun k hk => ?_
    refine h k (List.mem_of_getElem? hk) _ ?_
    have e : (ks.take (i + 1)).filter c = (ks.take i).filter c ++ [k].filter c := by rw [take_snoc hk, List.filter_append]
    cases hc : c k with
    | true => exact he k _ ⟨hs, by rw [e, List.filter_cons_of_pos hc]; exact iv_snoc _ _, rfl⟩
    | false => exact ⟨hs, by rw [e, List.filter_cons_of_neg (by rw [hc]; decide)]; exact congrArg iv (List.append_nil _).symm, rfl⟩
  · rintro acc _ ⟨rfl, rfl⟩
    rw [take_all]; exact q
theorem comp_all {cal : PC} {ρ : Rho} {x : Nat} {cond elt : SE} {xv : V} {items : List V} {Q' : List V → St → Prop} (P : Nat → List V → St → Prop) (hl : items.length ≤ 1000) (h0 : P 0 [] σ)
    (hc : ∀ v σ' (G : V → St → Prop), G (.bool true) σ' → cond cal (upd ρ x v) σ' G)
    (turn : ∀ i v acc σ', items[i]? = some v → P i acc σ' → elt cal (upd ρ x v) σ' fun u σ₃ => stillP σ σ₃ xv ∧ P (i + 1) (acc ++ [u]) σ₃) (fin : ∀ acc σ', P items.length acc σ' → Q' acc σ') :
    ∃ P : Nat → List V → St → Prop, items.length ≤ LIM ∧ P 0 [] σ ∧
      (∀ i v acc σ', items[i]? = some v → P i acc σ' → cond cal (upd ρ x v) σ' fun c σ'' => boolW c fun b => brW b (elt cal (upd ρ x v) σ'' fun u σ₃ => stillP σ σ₃ xv ∧ P (i + 1) (acc ++ [u]) σ₃) (stillP σ σ'' xv ∧ P (i + 1) acc σ'')) ∧
      ∀ acc σ', P items.length acc σ' → Q' acc σ' :=
  ⟨P, lim hl, h0, fun i v acc σ' hv hP => hc v σ' _ (turn i v acc σ' hv hP), fin⟩

theorem row_run {b : Nat} {m : Int} {names : List Int} (h : BoxAt σ b) (hn : names.length = 3) (h0 : m < 1000) (h1 : -1000 < m) (k : ∀ xs σ', xs.length = m.toNat → (∀ x ∈ xs, x ∈ names) → Bd b σ σ' → Q (.seq false (iv xs)) σ') :
    Cl (runW prog (n + 2)) 15 [.ref b, .seq false (iv names), .int m] σ Q := by
  refine Cl.go d15 rfl rfl ?_
  refine And.intro (small_of (by omega) (by omega)) (ov_rng m.toNat (small2 (by decide) (by decide) (by omega) (by omega)) (by rw [Int.sub_zero]) ?_)
  refine comp_all (fun i acc σ' => ∃ xs : List Int, C4 (acc = iv xs) (xs.length = i) (∀ x ∈ xs, x ∈ names) (Bd b σ σ')) ?_ ?_ (fun _ _ _ g => g) ?_ ?_
  · rw [iv_len, length_rangeI]; omega
  · exact ⟨[], rfl, rfl, nofun, .refl h⟩
  · intro i v acc σ₁ hv hP
    obtain ⟨xs, rfl, hx, hm, hb⟩ := hP
    refine take_run (hb.box h) (by decide) (by decide) fun d σ' d0 d3 hb' => ?_
    have hd : d.toNat < names.length := by omega
    refine ix_iv (List.getElem?_eq_getElem hd) (Int.toNat_of_nonneg d0).symm ?_
    refine And.intro trivial ⟨xs ++ [names[d.toNat]], iv_snoc _ _, by rw [List.length_append, hx]; rfl, fun x hx' => ?_, hb.trans hb'⟩
    rcases List.mem_append.mp hx' with h | h
    · exact hm x h
    · rw [List.mem_singleton.mp h]; exact List.getElem_mem _
  · intro acc σ' hP
    obtain ⟨xs, rfl, hx, hm, hb⟩ := hP
    rw [iv_len, length_rangeI] at hx
    exact k xs σ' hx hm hb

noncomputable def innerL (f : List Int) : List Int := (rangeI 0 (f.length + 1)).filter fun k => decide ((0 < k ∨ f.head? ≠ some 0) ∧ (k < f.length ∨ f.getLast? ≠ some 0))
theorem gaps_run {f b w e : List Int} (h : Pat f b w e) (k : Q (.seq false (iv (innerL f))) σ) : Cl (runW prog (n + 1)) 16 [.seq false (iv f)] σ Q := by
  have hs := h.short
  obtain ⟨x, hx, hx'⟩ := h.first
  obtain ⟨y, hy, hy'⟩ := h.last
  refine Cl.go d16 rfl rfl ?_
  refine And.intro (small_nat (f.length + 1) (by rw [iv_len]; rfl) (by omega)) (ov_rng0 (f.length + 1) (by rw [iv_len]; rfl) (by omega) ?_)
  refine comp_filter (fun k => decide ((0 < k ∨ f.head? ≠ some 0) ∧ (k < f.length ∨ f.getLast? ≠ some 0))) (by rw [length_rangeI]; omega) ?_ (fun _ _ g => g) trivial k
  intro k hk G g
  have e1 : decide ((0 < k ∨ f.head? ≠ some 0) ∧ (k < f.length ∨ f.getLast? ≠ some 0)) = decide ((k > 0 ∨ x > 0) ∧ (k < ((iv f).length : Int) ∨ y > 0)) := by
    rw [decide_eq_decide, iv_len, List.head?_eq_getElem?, hx, hy]
    have a : some x ≠ some 0 ↔ x > 0 := by rw [ne_eq, Option.some.injEq]; omega
    have b : some y ≠ some 0 ↔ y > 0 := by rw [ne_eq, Option.some.injEq]; omega
    rw [a, b]
  rw [e1] at g
  have fin : ∀ b : Bool, decide ((k > 0 ∨ x > 0) ∧ (k < ((iv f).length : Int) ∨ y > 0)) = b → G (.bool b) σ := fun b hb => hb ▸ g
  have yes : (k > 0 ∨ x > 0) → Ev (.or (.cmp .lt (.var 0) (.prim .len false (.cons (.var 6) .nil))) (.cmp .gt (.idx (.var 6) (.neg (.lit (.int 1)))) (.lit (.int 0)))) (runW prog n) (upd (envOf d16.1 [.seq false (iv f)]) 0 (.int k)) σ fun y σ₂ => boolW y fun d => G (.bool d) σ₂ := fun h1 =>
    brS (fun h3 => fin true (decide_eq_true ⟨h1, .inl h3⟩)) fun h3 => ix_ivlast hy (fin _ (decide_eq_decide.mpr ⟨fun h => h.2.resolve_left h3, fun h => ⟨h1, .inr h⟩⟩))
  refine brS (fun h1 => yes (.inl h1)) fun h1 => ix_iv hx rfl (brS (fun h2 => yes (.inr h2)) fun h2 => fin false (decide_eq_false fun h => ?_))
  exact h.1.elim h1 h2

noncomputable def viewL (w : List Int) (g r0 r1 : Nat) : List Int := (((0 :: w ++ [0]).take (g + 1)).drop (g + 1 - r0)) ++ [-1] ++ (((0 :: w ++ [0]).drop (g + 1)).take r1)
theorem view_run {w : List Int} {g r0 r1 : Nat} (hw : w.length ≤ 100) (hg : g ≤ 100) (h0 : r0 ≤ 100) (h1 : r1 ≤ 100) (k : Q (.seq true (iv (viewL w g r0 r1))) σ) : Cl (runW prog (n + 1)) 21 [.seq false (iv w), .int g, .seq true [.int r0, .int r1]] σ Q := by
  refine Cl.go d21 rfl rfl ?_
  refine And.intro (ll rfl) (add_iv [0] w rfl rfl (by rw [List.length_singleton]; omega) (And.intro (ll rfl) (add_iv ([0] ++ w) [0] rfl rfl (by rw [List.length_append, List.length_singleton]; omega) (Lk.mk ?_))))
  refine ix_seq (j := 0) rfl rfl ?_
  refine sl_seq (CutI.ii (a := g + 1 - r0) (b := g + 1) (by omega) rfl) ?_
  refine And.intro (ll rfl) (add_iv _ [-1] rfl rfl (Nat.le_trans (Nat.add_le_add_right (by rw [List.length_drop]; exact Nat.le_trans (Nat.sub_le _ _) (List.length_take_le _ _)) _) (show g + 1 + 1 ≤ 1000 by omega)) ?_)
  refine ix_seq (j := 1) rfl rfl ?_
  refine sl_seq (CutI.ii (a := g + 1) (b := g + 1 + r1) rfl rfl) ?_
  refine add_iv _ _ rfl rfl (Nat.le_trans (Nat.add_le_add (by rw [List.length_append, List.length_drop]; exact Nat.add_le_add_right (Nat.le_trans (Nat.sub_le _ _) (List.length_take_le _ _)) _) (by rw [List.length_drop]; exact Nat.le_trans (Nat.sub_le_sub_right (List.length_take_le _ _) _) (Nat.le_of_eq (Nat.add_sub_cancel_left ..)))) (show g + 1 + 1 + r1 ≤ 1000 by omega)) ?_
  unfold viewL at k
  rw [List.take_drop] at k
  exact k

theorem let_run {w : List Int} {a b : Int} (k : Q (.rng (min (max a 1) 63) (((w.take 63).length : Nat) - min (max b 1) 63 + 1)) σ) : Cl (runW prog (n + 1)) 23 [.seq false (iv w), .seq true [.int a, .int b]] σ Q := by
  refine Cl.go d23 rfl rfl ?_
  refine ix_seq (j := 0) rfl rfl ?_
  refine sl_seq (CutI.ni (b := 63) rfl) ?_
  refine ix_seq (j := 1) rfl rfl ?_
  have hl : (w.take 63).length ≤ 63 := List.length_take_le 63 w
  rw [← iv_len] at k
  rw [← iv_len] at hl
  refine And.intro (small2 ?_ ?_ ?_ ?_) k
  all_goals omega
end
end Mine
end

section
set_option autoImplicit false
namespace Mine
open PySem

theorem look_put (k k' : K) (v : V) (es : List (K × V)) : look k (put k' v es) = if k' = k then some v else look k es := by
  induction es with
  | nil => rfl
  | cons e r ih =>
    obtain ⟨j, u⟩ := e
    show look k (if j = k' then (j, v) :: r else (j, u) :: put k' v r) = if k' = k then some v else (if j = k then some u else look k r)
    by_cases h : j = k'
    · subst h
      rw [if_pos rfl]
      show (if j = k then some v else look k r) = _
      split <;> rfl
    · rw [if_neg h]
      show (if j = k then some u else look k (put k' v r)) = _
      rw [ih]
      by_cases h1 : j = k
      · subst h1; rw [if_pos rfl, if_neg (fun e => h e.symm), if_pos rfl]
      · rw [if_neg h1, if_neg h1]
theorem look_mem {k : K} {v : V} {es : List (K × V)} (h : look k es = some v) : (k, v) ∈ es := by
  induction es with
  | nil => cases h
  | cons e r ih =>
    obtain ⟨j, u⟩ := e
    simp only [look] at h
    split at h
    · rename_i q; cases h; subst q; exact List.mem_cons_self
    · exact List.mem_cons_of_mem _ (ih h)
theorem keys_put (k : K) (v : V) (es : List (K × V)) : (put k v es).map (·.1) = if k ∈ es.map (·.1) then es.map (·.1) else es.map (·.1) ++ [k] := by
  induction es with
  | nil => rfl
  | cons e r ih =>
    obtain ⟨j, u⟩ := e
    simp only [put]
    split
    · rename_i h; subst h; simp
    · rename_i h
      simp only [List.map_cons, ih, List.mem_cons]
      have : ¬ k = j := fun e => h e.symm
      simp only [this, false_or]
      split <;> rfl
theorem length_put (k : K) (v : V) (es : List (K × V)) : (put k v es).length ≤ es.length + 1 := by
  have := congrArg List.length (keys_put k v es)
  simp only [List.length_map] at this
  rw [this]; split <;> simp
theorem mem_put {k : K} {v : V} {es : List (K × V)} {e : K × V} (h : e ∈ put k v es) : e = (k, v) ∨ e ∈ es := by
  induction es with
  | nil => exact .inl (List.mem_singleton.mp h)
  | cons x r ih =>
    obtain ⟨j, u⟩ := x
    simp only [put] at h
    split at h
    · rename_i q; subst q
      rcases List.mem_cons.mp h with rfl | h
      · exact .inl rfl
      · exact .inr (List.mem_cons_of_mem _ h)
    · rcases List.mem_cons.mp h with rfl | h
      · exact .inr List.mem_cons_self
      · rcases ih h with h | h
        · exact .inl h
        · exact .inr (List.mem_cons_of_mem _ h)
theorem allI_put {k : K} {v : V} {es : List (K × V)} {b : Bool} (h : es.all (fun e => e.1.isI == b) = true) (hk : k.isI = b) : (put k v es).all (fun e => e.1.isI == b) = true := by
  rw [List.all_eq_true] at *
  intro e he
  rcases mem_put he with rfl | he
  · simp [hk]
  · exact h e he
noncomputable def Best (P : Int → Prop) (v : Int) : Prop := 0 ≤ v ∧ (∀ x, P x → x ≤ v) ∧ (v = 0 ∨ P v)
theorem Best.uniq {P : Int → Prop} {v u : Int} (h : Best P v) (g : Best P u) : v = u := by
  obtain ⟨h0, h1, h2⟩ := h
  obtain ⟨g0, g1, g2⟩ := g
  have a : v ≤ u := by
    rcases h2 with h | h
    · omega
    · exact g1 _ h
  have b : u ≤ v := by
    rcases g2 with h | h
    · omega
    · exact h1 _ h
  omega
theorem Best.congr {P P' : Int → Prop} {v : Int} (h : Best P v) (e : ∀ x, P x ↔ P' x) : Best P' v :=
  ⟨h.1, fun x hx => h.2.1 x ((e x).mpr hx), h.2.2.imp id (e v).mp⟩
theorem Best.max {P : Int → Prop} {v d : Int} (h : Best P v) : Best (fun x => P x ∨ x = d) (max v d) := by
  obtain ⟨h0, h1, h2⟩ := h
  refine ⟨by omega, ?_, ?_⟩
  · rintro x (hx | rfl)
    · have := h1 x hx; omega
    · omega
  · by_cases hd : d ≤ v
    · rw [show Max.max v d = v by omega]
      exact h2.imp id .inl
    · rw [show Max.max v d = d by omega]
      exact .inr (.inr rfl)
theorem Best.zero {P : Int → Prop} (h : ∀ x, ¬ P x) : Best P 0 := ⟨by omega, fun x hx => (h x hx).elim, .inl rfl⟩

noncomputable abbrev Rows := List (List Int × List Int)
noncomputable def Say (rows : Rows) (L R : List Int) (x : Int) : Prop := ∃ (f row : List Int) (k : Nat), (f, row) ∈ rows ∧ k ≤ f.length ∧ f.take k <:+ L ∧ f.drop k <+: R ∧ row[k]? = some x
noncomputable def Told (rows : Rows) (L R : List Int) (v : Int) : Prop := Best (Say rows L R) v
noncomputable def SayP (rows : Rows) (M : List Int) (p₀ j₀ s : Nat) (x : Int) : Prop := ∃ (f row : List Int) (p k : Nat), (f, row) ∈ rows ∧ p + k = s ∧ k ≤ f.length ∧ f <+: M.drop p ∧ row[k]? = some x ∧ (p < p₀ ∨ (p = p₀ ∧ f.length ≤ j₀))

theorem split_iff {f M : List Int} {p k s : Nat} (hs : p + k = s) (hk : k ≤ f.length) : f <+: M.drop p → f.take k <:+ M.take s ∧ f.drop k <+: M.drop s := by
  rintro ⟨t, e⟩
  subst hs
  constructor
  · refine ⟨M.take p, ?_⟩
    rw [List.take_add, ← e, List.take_append_of_le_length hk]
  · refine ⟨t, ?_⟩
    rw [← List.drop_drop, ← e, List.drop_append_of_le_length hk]
theorem join_iff {f M : List Int} {k s : Nat} (hs : s ≤ M.length) (hk : k ≤ f.length) (h1 : f.take k <:+ M.take s) (h2 : f.drop k <+: M.drop s) : ∃ p, p + k = s ∧ f <+: M.drop p := by
  obtain ⟨A, e1⟩ := h1
  obtain ⟨t, e2⟩ := h2
  have hl := congrArg List.length e1
  simp only [List.length_append, List.length_take] at hl
  refine ⟨A.length, by omega, t, ?_⟩
  have : M = A ++ (f ++ t) := by
    rw [← List.take_append_drop s M, ← e1, ← e2]
    rw [← List.append_assoc, List.append_assoc A, List.take_append_drop, List.append_assoc]
  rw [this, List.drop_left]
theorem SayP_told {rows : Rows} (hne : ∀ f row, (f, row) ∈ rows → f ≠ []) {M : List Int} {s : Nat} (hs : s ≤ M.length) (x : Int) : SayP rows M M.length 0 s x ↔ Say rows (M.take s) (M.drop s) x := by
  constructor
  · rintro ⟨f, row, p, k, hm, h1, h2, h3, h4, _⟩
    obtain ⟨a, b⟩ := split_iff h1 h2 h3
    exact ⟨f, row, k, hm, h2, a, b, h4⟩
  · rintro ⟨f, row, k, hm, h2, a, b, h4⟩
    obtain ⟨p, h1, h3⟩ := join_iff hs h2 a b
    refine ⟨f, row, p, k, hm, h1, h2, h3, h4, .inl ?_⟩
    obtain ⟨t, e⟩ := h3
    have := congrArg List.length e
    simp only [List.length_append, List.length_drop] at this
    have := List.length_pos_iff.mpr (hne f row hm)
    omega

structure Trie (Ns : List (List Int)) (links nums : List (K × V)) (rows : Rows) : Prop where
  root : Ns[0]? = some []
  one : ∀ (i j : Nat) (x : List Int), Ns[i]? = some x → Ns[j]? = some x → i = j
  link : ∀ (i : Nat) (x : List Int) (l : Int) (v : V), Ns[i]? = some x → 0 ≤ l → l ≤ 255 → (look (.i (256 * i + l)) links = some v ↔ ∃ j : Nat, v = .int j ∧ Ns[j]? = some (x ++ [l]))
  low : ∀ (k : Int) (v : V), look (.i k) links = some v → k < 256 * Ns.length
  pre : ∀ (x : List Int) (l : Int), x ++ [l] ∈ Ns → x ∈ Ns
  num : ∀ (i : Int) (v : V), look (.i i) nums = some v ↔ ∃ (j : Nat) (f row : List Int), i = j ∧ Ns[j]? = some f ∧ (f, row) ∈ rows ∧ v = .seq true (iv row)
  mem : ∀ f row, (f, row) ∈ rows → f ∈ Ns
  rlen : ∀ f row, (f, row) ∈ rows → row.length = f.length + 1
  rne : ∀ f row, (f, row) ∈ rows → f ≠ []
  linksI : links.all (fun e => e.1.isI == true) = true
  numsI : nums.all (fun e => e.1.isI == true) = true
  linksLen : links.length < Ns.length
  numsLen : nums.length ≤ rows.length

theorem Trie.empty : Trie [[]] [] [] [] where
  root := rfl
  one i j x h g := by
    have h1 := (List.getElem?_eq_some_iff.mp h).1
    have h2 := (List.getElem?_eq_some_iff.mp g).1
    simp only [List.length_singleton] at h1 h2
    omega
  link i x l v h _ _ := by
    constructor
    · intro h; cases h
    · rintro ⟨j, _, g⟩
      have h2 := (List.getElem?_eq_some_iff.mp g).1
      simp only [List.length_singleton] at h2
      have : j = 0 := by omega
      subst this
      simp at g
  low k v h := by cases h
  pre x l h := by simp at h
  num i v := by
    constructor
    · intro h; cases h
    · rintro ⟨_, _, _, _, _, h, _⟩; cases h
  mem f row h := by cases h
  rlen f row h := by cases h
  rne f row h := by cases h
  linksI := rfl
  numsI := rfl
  linksLen := by decide
  numsLen := by decide

section
variable {Ns : List (List Int)} {links nums : List (K × V)} {rows : Rows}
theorem Trie.node (T : Trie Ns links nums rows) {i : Nat} {x : List Int} {l : Int} (hi : Ns[i]? = some x) (h0 : 0 ≤ l) (h1 : l ≤ 255) (hn : look (.i (256 * i + l)) links = none) :
    Trie (Ns ++ [x ++ [l]]) (put (.i (256 * i + l)) (.int Ns.length) links) nums rows := by
  have hlt := (List.getElem?_eq_some_iff.mp hi).1
  have hnew : x ++ [l] ∉ Ns := by
    intro hm
    obtain ⟨j, hj⟩ := List.getElem?_of_mem hm
    have := (T.link i x l (.int j) hi h0 h1).mpr ⟨j, rfl, hj⟩
    rw [hn] at this; cases this
  have get : ∀ (j : Nat) (y : List Int), (Ns ++ [x ++ [l]])[j]? = some y ↔ (Ns[j]? = some y ∨ (j = Ns.length ∧ y = x ++ [l])) := by
    intro j y
    by_cases hj : j < Ns.length
    · rw [List.getElem?_append_left hj]
      constructor
      · exact .inl
      · rintro (h | ⟨h, _⟩)
        · exact h
        · omega
    · rw [List.getElem?_append_right (by omega)]
      constructor
      · intro h
        have := (List.getElem?_eq_some_iff.mp h).1
        simp only [List.length_singleton] at this
        have e : j = Ns.length := by omega
        subst e
        simp at h
        exact .inr ⟨rfl, h.symm⟩
      · rintro (h | ⟨rfl, rfl⟩)
        · exact absurd (List.getElem?_eq_some_iff.mp h).1 hj
        · simp
  refine { root := ?_, one := ?_, link := ?_, low := ?_, pre := ?_, num := ?_, mem := ?_, rlen := T.rlen, rne := T.rne, linksI := ?_, numsI := T.numsI, linksLen := ?_, numsLen := T.numsLen }
  · rw [get]; exact .inl T.root
  · intro a b y ha hb
    rw [get] at ha hb
    rcases ha with ha | ⟨ha, ea⟩ <;> rcases hb with hb | ⟨hb, eb⟩
    · exact T.one a b y ha hb
    · subst eb; exact absurd (List.mem_of_getElem? ha) hnew
    · subst ea; exact absurd (List.mem_of_getElem? hb) hnew
    · omega
  · intro i' x' l' v hi' h0' h1'
    rw [get] at hi'
    rw [look_put]
    rcases hi' with hi' | ⟨rfl, rfl⟩
    · by_cases e : i' = i ∧ l' = l
      · obtain ⟨rfl, rfl⟩ := e
        rw [hi] at hi'; cases hi'
        rw [if_pos rfl]
        constructor
        · intro h; cases h; exact ⟨Ns.length, rfl, by rw [get]; exact .inr ⟨rfl, rfl⟩⟩
        · rintro ⟨j, rfl, hj⟩
          rw [get] at hj
          rcases hj with hj | ⟨rfl, _⟩
          · exact absurd (List.mem_of_getElem? hj) hnew
          · rfl
      · rw [if_neg (by intro q; injection q with q; exact e ⟨by omega, by omega⟩), T.link i' x' l' v hi' h0' h1']
        constructor
        · rintro ⟨j, rfl, hj⟩; exact ⟨j, rfl, by rw [get]; exact .inl hj⟩
        · rintro ⟨j, rfl, hj⟩
          refine ⟨j, rfl, ?_⟩
          rw [get] at hj
          rcases hj with hj | ⟨_, q⟩
          · exact hj
          · obtain ⟨q1, q2⟩ := List.append_inj' q rfl
            subst q1
            exact absurd ⟨T.one i' i _ hi' hi, by simpa using q2⟩ e
    · rw [if_neg (by intro q; injection q with q; omega)]
      constructor
      · intro h; have := T.low _ _ h; omega
      · rintro ⟨j, rfl, hj⟩
        rw [get] at hj
        rcases hj with hj | ⟨_, q⟩
        · exact absurd (T.pre _ _ (List.mem_of_getElem? hj)) hnew
        · have := congrArg List.length q; simp at this
  · intro k v h
    rw [look_put] at h
    rw [List.length_append, List.length_singleton]
    split at h
    · rename_i e; injection e with e; omega
    · have := T.low k v h; omega
  · intro y m hy
    rcases List.mem_append.mp hy with hy | hy
    · exact List.mem_append.mpr (.inl (T.pre _ _ hy))
    · have := List.mem_singleton.mp hy
      obtain ⟨q1, q2⟩ := List.append_inj' this rfl
      subst q1
      exact List.mem_append.mpr (.inl (List.mem_of_getElem? hi))
  · intro k v
    rw [T.num]
    constructor
    · rintro ⟨j, f, row, e, hj, hm, hv⟩; exact ⟨j, f, row, e, by rw [get]; exact .inl hj, hm, hv⟩
    · rintro ⟨j, f, row, e, hj, hm, hv⟩
      rw [get] at hj
      rcases hj with hj | ⟨_, q⟩
      · exact ⟨j, f, row, e, hj, hm, hv⟩
      · subst q; exact absurd (T.mem _ _ hm) hnew
  · exact fun f row h => List.mem_append.mpr (.inl (T.mem f row h))
  · exact allI_put T.linksI rfl
  · have := length_put (.i (256 * i + l)) (.int Ns.length) links
    have := T.linksLen
    rw [List.length_append, List.length_singleton]; omega

theorem Trie.row (T : Trie Ns links nums rows) {i : Nat} {f row : List Int} (hi : Ns[i]? = some f) (hf : f ≠ []) (hr : row.length = f.length + 1) (hn : ∀ row', (f, row') ∉ rows) :
    Trie Ns links (put (.i i) (.seq true (iv row)) nums) (rows ++ [(f, row)]) := by
  refine { root := T.root, one := T.one, link := T.link, low := T.low, pre := T.pre, num := ?_, mem := ?_, rlen := ?_, rne := ?_, linksI := T.linksI, numsI := ?_, linksLen := T.linksLen, numsLen := ?_ }
  · intro k v
    rw [look_put]
    by_cases e : K.i (i : Int) = K.i k
    · rw [if_pos e]
      injection e with e
      subst e
      constructor
      · intro h; cases h; exact ⟨i, f, row, rfl, hi, by simp, rfl⟩
      · rintro ⟨j, f', row', e, hj, hm, rfl⟩
        have : j = i := by omega
        subst this
        rw [hi] at hj; cases hj
        rcases List.mem_append.mp hm with hm | hm
        · exact absurd hm (hn _)
        · have := List.mem_singleton.mp hm
          cases this; rfl
    · rw [if_neg e, T.num]
      constructor
      · rintro ⟨j, f', row', e, hj, hm, hv⟩; exact ⟨j, f', row', e, hj, List.mem_append.mpr (.inl hm), hv⟩
      · rintro ⟨j, f', row', ek, hj, hm, hv⟩
        refine ⟨j, f', row', ek, hj, ?_, hv⟩
        rcases List.mem_append.mp hm with hm | hm
        · exact hm
        · have := List.mem_singleton.mp hm
          cases this
          exact absurd (by rw [ek, T.one _ _ _ hj hi]) e
  · intro f' row' h
    rcases List.mem_append.mp h with h | h
    · exact T.mem _ _ h
    · cases List.mem_singleton.mp h; exact List.mem_of_getElem? hi
  · intro f' row' h
    rcases List.mem_append.mp h with h | h
    · exact T.rlen _ _ h
    · cases List.mem_singleton.mp h; exact hr
  · intro f' row' h
    rcases List.mem_append.mp h with h | h
    · exact T.rne _ _ h
    · cases List.mem_singleton.mp h; exact hf
  · exact allI_put T.numsI rfl
  · have := length_put (.i (i : Int)) (.seq true (iv row)) nums
    have := T.numsLen
    rw [List.length_append, List.length_singleton]; omega

theorem Trie.prefix_mem (T : Trie Ns links nums rows) {f : List Int} (h : f ∈ Ns) : ∀ k, f.take k ∈ Ns := by
  have : ∀ (n : Nat) (f : List Int), f.length = n → f ∈ Ns → ∀ k, f.take k ∈ Ns := by
    intro n
    induction n with
    | zero => intro f h hf k; rw [List.length_eq_zero_iff.mp h] at *; simpa using hf
    | succ n ih =>
      intro f hl hf k
      by_cases hk : k < f.length
      · have hne : f ≠ [] := by intro e; rw [e] at hl; cases hl
        have e := List.dropLast_concat_getLast hne
        have hf' : f.dropLast ∈ Ns := T.pre _ _ (by rw [e]; exact hf)
        have := ih f.dropLast (by simp [hl]) hf' k
        rw [List.dropLast_eq_take, List.take_take] at this
        rw [show min k (f.length - 1) = k by omega] at this
        exact this
      · rw [List.take_of_length_le (by omega)]; exact hf
  exact this _ f rfl h
theorem Trie.minus (T : Trie Ns links nums rows) : look (.i (-1)) nums = none := by
  cases h : look (.i (-1)) nums with
  | none => rfl
  | some v => obtain ⟨j, _, _, e, _⟩ := (T.num _ _).mp h; omega
end

noncomputable def rowOf (f ds : List Int) : List Int :=
  let r := if f.head? = some 0 then ds.set 0 0 else ds
  if f.getLast? = some 0 then r.set (r.length - 1) 0 else r
theorem rowOf_len (f ds : List Int) : (rowOf f ds).length = ds.length := by unfold rowOf; simp only; split <;> split <;> simp
end Mine
end

section
set_option autoImplicit false
namespace Mine
open PySem

noncomputable def nsT (m N : Nat) : MO := .ns [(0, .ref (m + 2)), (1, .ref (m + 3)), (2, .int N), (3, .ref (m + 4))]
structure Tab (m : Nat) (σ : St) (rows : Rows) (exc : List (K × V)) : Prop where
  ex : ∃ Ns links nums, C5 (Trie Ns links nums rows) (Ns.length ≤ 1 + 63 * rows.length) (σ[m]? = some (nsT m Ns.length)) (σ[m + 2]? = some (.dict links)) (σ[m + 3]? = some (.dict nums))
  inst : σ[m + 1]? = some (.inst m)
  excAt : σ[m + 4]? = some (.dict exc)
  excI : exc.all (fun e => e.1.isI == true) = true

theorem Tab.keep {m : Nat} {σ σ' : St} {rows : Rows} {exc : List (K × V)} (T : Tab m σ rows exc) (h : ∀ i, m ≤ i → i < m + 5 → σ'[i]? = σ[i]?) : Tab m σ' rows exc := by
  have g : ∀ (j : Nat) {a : MO}, j < 5 → σ[m + j]? = some a → σ'[m + j]? = some a := fun j a hj e => (h _ (Nat.le_add_right _ _) (Nat.add_lt_add_left hj _)).trans e
  obtain ⟨⟨Ns, links, nums, t, l, a, b, c⟩, i, x, xi⟩ := T
  exact ⟨⟨Ns, links, nums, t, l, g 0 (by decide) a, g 2 (by decide) b, g 3 (by decide) c⟩, g 1 (by decide) i, g 4 (by decide) x, xi⟩
theorem Tab.lt {m : Nat} {σ : St} {rows : Rows} {exc : List (K × V)} (T : Tab m σ rows exc) : m + 4 < σ.length := lt_at T.excAt

theorem all_isI {es : List (K × V)} (h : es.all (fun e => e.1.isI == true) = true) : es.all (·.1.isI) = true := by
  rw [List.all_eq_true] at *
  exact fun e he => beq_iff_eq.mp (h e he)
section
variable {σ : St} {m k r : Nat} {es : List (Nat × V)} {ds : List (K × V)} {v : V}
theorem at_attr {Q : V → Prop} (h1 : σ[m + 1]? = some (.inst m)) (h2 : σ[m]? = some (.ns es)) (h3 : nsLookup k es = some v) (q : Q v) : attrW σ (.ref (m + 1)) k Q := by unfold attrW; exact ⟨_, _, _, h1, h2, h3, q⟩
theorem at_setAttr {Q : St → Prop} (h1 : σ[m + 1]? = some (.inst m)) (h2 : σ[m]? = some (.ns es)) (h3 : es.length < 100) (q : Q (σ.set m (.ns (nsPut k v es)))) : setAttrW σ (.ref (m + 1)) k v Q := by unfold setAttrW; exact ⟨_, _, h1, h2, h3, q⟩
theorem at_inst {Q : Prop} (h1 : σ[m + 1]? = some (.inst m)) (h2 : σ[m]? = some (.ns es)) (q : Q) : instW σ (.ref (m + 1)) Q := by unfold instW; exact ⟨_, _, h1, h2, q⟩
theorem at_dict {Q : Prop} {b : Bool} (h : σ[r]? = some (.dict ds)) (hi : ds.all (fun e => e.1.isI == b) = true) (q : Q) : isDictW σ (.ref r) Q := by unfold isDictW; exact ⟨_, _, h, hi, q⟩
theorem at_get {Q : V → Prop} {x : Int} {d u : V} (h : σ[r]? = some (.dict ds)) (hi : ds.all (fun e => e.1.isI == true) = true) (hu : (look (.i x) ds).getD d = u) (q : Q u) : getW σ (.ref r) (.int x) d Q := by unfold getW; exact ⟨_, h, hi, hu ▸ q⟩
theorem at_getT {Q : V → Prop} {x : List Int} {d u : V} (h : σ[r]? = some (.dict ds)) (hi : ds.all (fun e => e.1.isI == false) = true) (hu : (look (.t x) ds).getD d = u) (q : Q u) : getW σ (.ref r) (.seq true (iv x)) d Q := by unfold getW; exact ⟨_, h, _, rfl, hi, hu ▸ q⟩
theorem at_in {Q : Bool → Prop} {x : Int} {b : Bool} (h : σ[r]? = some (.dict ds)) (hi : ds.all (fun e => e.1.isI == true) = true) (hb : (look (.i x) ds).isSome = b) (q : Q b) : inD σ x r Q := by unfold inD; exact ⟨_, h, all_isI hi, hb ▸ q⟩
theorem at_idx {Q : V → Prop} {x : Int} (h : σ[r]? = some (.dict ds)) (hi : ds.all (fun e => e.1.isI == true) = true) (hl : look (.i x) ds = some v) (q : Q v) : indexW σ (.ref r) (.int x) Q := by unfold indexW; exact .inr ⟨_, h, v, hi, hl, q⟩
theorem at_idxT {Q : V → Prop} {x : List Int} (h : σ[r]? = some (.dict ds)) (hi : ds.all (fun e => e.1.isI == false) = true) (hl : look (.t x) ds = some v) (q : Q v) : indexW σ (.ref r) (.seq true (iv x)) Q := by unfold indexW; exact .inr ⟨_, h, _, rfl, v, hi, hl, q⟩
theorem at_put {Q : St → Prop} {x : Int} (h : σ[r]? = some (.dict ds)) (hi : ds.all (fun e => e.1.isI == true) = true) (hl : ds.length < LIM) (q : Q (σ.set r (.dict (put (.i x) v ds)))) : setIdxW σ (.ref r) (.int x) v Q := by unfold setIdxW; exact .inr ⟨_, h, ⟨hi, hl⟩, q⟩
theorem at_putT {Q : St → Prop} {x : List Int} (h : σ[r]? = some (.dict ds)) (hi : ds.all (fun e => e.1.isI == false) = true) (hl : ds.length < LIM) (q : Q (σ.set r (.dict (put (.t x) v ds)))) : setIdxW σ (.ref r) (.seq true (iv x)) v Q := by unfold setIdxW; exact .inr ⟨_, h, _, rfl, ⟨hi, hl⟩, q⟩
theorem at_set {Q : St → Prop} {xs : List V} {n : Int} {j : Nat} (h : σ[r]? = some (.list xs)) (hn : n = j) (hj : j < xs.length) (q : Q (σ.set r (.list (xs.set j v)))) : setIdxW σ (.ref r) (.int n) v Q := by unfold setIdxW; exact .inl ⟨_, h, _, _, idxOf_nn hn hj, List.getElem?_eq_getElem hj, q⟩
theorem at_setLast {Q : St → Prop} {xs : List V} (h : σ[r]? = some (.list xs)) (hj : 0 < xs.length) (q : Q (σ.set r (.list (xs.set (xs.length - 1) v)))) : setIdxW σ (.ref r) (.int (-1)) v Q := by unfold setIdxW; exact .inl ⟨_, h, _, _, idxOf_last hj, List.getElem?_eq_getElem (Nat.sub_lt hj (by decide)), q⟩
theorem at_list {Q : Prop} {xs : List V} (h : σ[r]? = some (.list xs)) (q : Q) : isListW σ (.ref r) Q := by unfold isListW; exact ⟨_, h, q⟩
theorem at_append {Q : St → Prop} {xs : List V} (h : σ[r]? = some (.list xs)) (hl : xs.length ≤ 1000) (q : Q (σ.set r (.list (xs ++ [v])))) : appendW σ (.ref r) v Q := by unfold appendW; exact ⟨_, h, lim' hl, q⟩

theorem iv_set (xs : List Int) (i : Nat) (x : Int) : (iv xs).set i (.int x) = iv (xs.set i x) := List.map_set.symm
theorem get_new {α : Type} {σ L : List α} {j : Nat} {a : α} (h : L[j]? = some a) : (σ ++ L)[σ.length + j]? = some a := by
  rw [List.getElem?_append_right (Nat.le_add_right _ _), Nat.add_sub_cancel_left]; exact h
theorem get_old {α : Type} {σ τ : List α} {i : Nat} {a : α} (h : σ[i]? = some a) : (σ ++ τ)[i]? = some a := by
  rw [List.getElem?_append_left (lt_at h)]; exact h
theorem get_last {α : Type} (σ : List α) (a : α) : (σ ++ [a])[σ.length]? = some a := get_new (j := 0) rfl
theorem set_new {α : Type} (σ L : List α) (j : Nat) (a : α) : (σ ++ L).set (σ.length + j) a = σ ++ L.set j a := by
  rw [List.set_append_right _ _ (Nat.le_add_right _ _), Nat.add_sub_cancel_left]
theorem set_last {α : Type} (σ : List α) (a b : α) : (σ ++ [a]).set σ.length b = σ ++ [b] := set_new σ [a] 0 b
theorem get_set_ne {α : Type} {σ : List α} {i j : Nat} {a b : α} (h : σ[i]? = some a) (hn : j ≠ i) : (σ.set j b)[i]? = some a := by
  rw [List.getElem?_set_ne hn]; exact h
theorem get_set_eq {α : Type} {σ : List α} {i : Nat} {a b : α} (h : σ[i]? = some a) : (σ.set i b)[i]? = some b := List.getElem?_set_self (lt_at h)
theorem init_dict {L : St} {Q : St → Prop} (h0 : L[0]? = some (.ns es)) (h1 : L[1]? = some (.inst σ.length)) (he : es.length < 100) (q : Q (σ ++ (L ++ [MO.dict []]).set 0 (.ns (nsPut k (.ref (σ.length + L.length)) es)))) :
    setAttrW (σ ++ L ++ [MO.dict []]) (.ref (σ.length + 1)) k (.ref (σ ++ L).length) Q := by
  have e := List.append_assoc σ L [MO.dict []]
  rw [List.length_append, e]
  refine at_setAttr (get_new (get_old h1)) (get_new (j := 0) (get_old h0)) he ?_
  have := set_new σ (L ++ [.dict []]) 0 (.ns (nsPut k (.ref (σ.length + L.length)) es))
  rw [Nat.add_zero] at this
  rw [this]; exact q
theorem init_val {L : St} {Q : St → Prop} (h0 : L[0]? = some (.ns es)) (h1 : L[1]? = some (.inst σ.length)) (he : es.length < 100) (q : Q (σ ++ L.set 0 (.ns (nsPut k v es)))) :
    setAttrW (σ ++ L) (.ref (σ.length + 1)) k v Q := by
  refine at_setAttr (get_new h1) (get_new (j := 0) h0) he ?_
  have := set_new σ L 0 (.ns (nsPut k v es))
  rw [Nat.add_zero] at this
  rw [this]; exact q
end

section
variable {n : Nat} {σ : St} {Q : V → St → Prop}
theorem new_run (k : ∀ σ', Tab σ.length σ' [] [] → σ'.length = σ.length + 5 → (∀ i, i < σ.length → σ'[i]? = σ[i]?) → Q .nul σ') : Cl (runW prog (n + 1)) 0 [.ref (σ.length + 1)] (σ ++ [.ns [], .inst σ.length]) Q := by
  refine Cl.go d0 rfl rfl ?_
  refine init_dict rfl rfl (Nat.lt_of_sub_eq_succ rfl) (Lk.mk ?_)
  refine init_dict rfl rfl (Nat.lt_of_sub_eq_succ rfl) (Lk.mk ?_)
  refine init_val rfl rfl (Nat.lt_of_sub_eq_succ rfl) (Lk.mk ?_)
  refine init_dict rfl rfl (Nat.lt_of_sub_eq_succ rfl) ?_
  refine k _ ⟨⟨[[]], [], [], .empty, by decide, get_new (j := 0) rfl, get_new (j := 2) rfl, get_new (j := 3) rfl⟩, get_new (j := 1) rfl, get_new (j := 4) rfl, rfl⟩ (List.length_append) fun i hi => List.getElem?_append_left hi

theorem state_run {m : Nat} {Ns : List (List Int)} {links nums : List (K × V)} {rows : Rows} {f : List Int} (T : Trie Ns links nums rows) {es : List (Nat × V)} (h1 : σ[m + 1]? = some (.inst m)) (h0 : σ[m]? = some (.ns es)) (he : nsLookup 0 es = some (.ref (m + 2)))
    (h2 : σ[m + 2]? = some (.dict links)) (hf : ∀ l ∈ f, 0 ≤ l ∧ l ≤ 255) (hnew : ∀ row, (f, row) ∉ rows) (k : ∀ s : Int, look (.i s) nums = none → Q (.int s) σ) :
    Cl (runW prog (n + 1)) 8 [.ref (m + 1), .seq false (iv f)] σ Q := by
  refine Cl.go d8 rfl rfl (Lk.mk (ov_seq ?_))
  refine Exists.intro (fun i ρ' σ' => σ' = σ ∧ ∃ j : Nat, Ns[j]? = some (f.take i) ∧ Has ρ' [(1, .ref (m + 1)), (13, .int j)]) ⟨⟨rfl, 0, T.root, rfl⟩, ?_, ?_⟩
  · intro i v ρ σ' hv hP
    refine at_iv hv fun x hx => ?_
    obtain ⟨rfl, j, hj, hρ⟩ := hP
    have hx' := hf x (List.mem_of_getElem? hx)
    refine hρ.go ?_
    refine at_attr h1 h0 he ?_
    refine at_dict h2 T.linksI ?_
    refine And.intro rfl ?_
    cases hlk : look (.i (256 * (j : Int) + x)) links with
    | none =>
      exact at_get h2 T.linksI (congrArg (Option.getD · _) hlk) (Lk.mk (k _ T.minus))
    | some v =>
      obtain ⟨j', rfl, hj'⟩ := (T.link j (f.take i) x v hj hx'.1 hx'.2).mp hlk
      refine at_get h2 T.linksI (congrArg (Option.getD · _) hlk) (Lk.mk ?_)
      refine And.intro trivial ⟨rfl, j', ?_, rfl⟩
      rw [take_snoc hx]; exact hj'
  · intro ρ σ' hP
    obtain ⟨rfl, j, hj, hρ⟩ := hP
    refine hρ.go (Lk.mk (k _ ?_))
    rw [take_all] at hj
    cases hq : look (.i (j : Int)) nums with
    | none => rfl
    | some v =>
      obtain ⟨j', f', row, e, hj', hm, _⟩ := (T.num _ _).mp hq
      rw [← Int.ofNat.inj e, hj] at hj'
      cases hj'
      exact absurd hm (hnew _)
end
end Mine
end

section
set_option autoImplicit false
namespace Mine
open PySem

noncomputable def tabS (m : Nat) (σ : St) (N : Nat) (links : List (K × V)) : St := (σ.set m (nsT m N)).set (m + 2) (.dict links)
section
variable {m N i : Nat} {σ : St} {links : List (K × V)} {a : MO}
theorem tabS_0 (h : σ[m]? = some a) : (tabS m σ N links)[m]? = some (nsT m N) := get_set_ne (get_set_eq h) (by omega)
theorem tabS_2 (h : σ[m + 2]? = some a) : (tabS m σ N links)[m + 2]? = some (.dict links) := get_set_eq (get_set_ne h (by omega))
theorem tabS_ne (h0 : m ≠ i) (h2 : m + 2 ≠ i) : (tabS m σ N links)[i]? = σ[i]? := by unfold tabS; rw [List.getElem?_set_ne h2, List.getElem?_set_ne h0]
theorem tabS_len : (tabS m σ N links).length = σ.length := by unfold tabS; rw [List.length_set, List.length_set]
theorem tabS_self (h0 : σ[m]? = some (nsT m N)) (h2 : σ[m + 2]? = some (.dict links)) : tabS m σ N links = σ := by
  have s : ∀ {i : Nat} {a : MO}, σ[i]? = some a → σ.set i a = σ := fun {i a} h => by
    obtain ⟨h1, h2⟩ := List.getElem?_eq_some_iff.mp h
    rw [← h2, List.set_getElem_self]
  unfold tabS; rw [s h0, s h2]
theorem tabS_step {N' : Nat} {links' : List (K × V)} : ((tabS m σ N links).set (m + 2) (.dict links')).set m (nsT m N') = tabS m σ N' links' := by
  unfold tabS
  rw [List.set_set, List.set_comm _ _ (by omega : m + 2 ≠ m), List.set_set]
end

section
variable {n : Nat} {σ : St} {Q : V → St → Prop}
noncomputable def AddInv (m : Nat) (f : List Int) (nums : List (K × V)) (rows : Rows) (N0 : Nat) (σ₁ : St) (rr : Nat) (i : Nat) (ρ : Rho) (σ' : St) : Prop :=
  ∃ Ns links, ∃ j : Nat, C5 (Trie Ns links nums rows) (Ns.length ≤ N0 + i) (Ns[j]? = some (f.take i)) (Has ρ [(1, .ref (m + 1)), (14, .ref rr), (13, .int j)]) (σ' = tabS m σ₁ Ns.length links)
noncomputable def addBody : TSs := (.cons (.assign 15 (.bin .add (.bin .mul (.lit (.int 256)) (.var 13)) (.var 7)))
  (.cons (.ite (.cmp .notin (.var 15) (.attr (.var 1) 0)) (.cons (.setIdx (.attr (.var 1) 0) (.var 15) (.attr (.var 1) 2))
  (.cons (.augAttr (.var 1) 2 .add (.lit (.int 1)))
  .nil)) .nil)
  (.cons (.assign 13 (.idx (.attr (.var 1) 0) (.var 15)))
  .nil)))
theorem add_turn {cal : PC} {m : Nat} {f : List Int} {nums : List (K × V)} {rows : Rows} {N0 : Nat} {σ₁ : St} {rr i : Nat} {ρ : Rho} {σ' : St} {x : Int} {a b : MO} {Q : Fl → Rho → St → Prop} (I : AddInv m f nums rows N0 σ₁ rr i ρ σ') (k0 : σ₁[m]? = some a) (k1 : σ₁[m + 1]? = some (.inst m)) (k2 : σ₁[m + 2]? = some b)
    (hx : f[i]? = some x) (h0 : 0 ≤ x) (h1 : x ≤ 255) (hN : N0 + i < 90000) (k : ∀ ρ₂ σ₂, AddInv m f nums rows N0 σ₁ rr (i + 1) ρ₂ σ₂ → Q .next ρ₂ σ₂) : Exs addBody cal (upd ρ 7 (.int x)) σ' Q := by
  obtain ⟨Ns, links, j, T, hNs, hj, hρ, rfl⟩ := I
  have c0 := tabS_0 (N := Ns.length) (links := links) k0
  have c1 : (tabS m σ₁ Ns.length links)[m + 1]? = some (.inst m) := (tabS_ne (by omega) (by omega)).trans k1
  have c2 := tabS_2 (N := Ns.length) (links := links) k2
  have hl := T.linksLen
  refine hρ.go ?_
  refine And.intro rfl (Lk.mk ?_)
  refine at_attr c1 c0 rfl ?_
  cases hlk : look (.i (256 * (j : Int) + x)) links with
  | none =>
    have T' := T.node hj h0 h1 hlk
    refine at_in c2 T.linksI (congrArg Option.isSome hlk) ?_
    refine at_attr c1 c0 rfl ?_
    refine at_attr c1 c0 rfl ?_
    refine at_put c2 T.linksI (Nat.lt_trans (Nat.lt_of_lt_of_le hl (Nat.le_trans hNs (Nat.le_of_lt hN))) (by decide)) (Lk.mk ?_)
    have d0 := get_set_ne (b := MO.dict (put (.i (256 * (j : Int) + x)) (.int Ns.length) links)) c0 (show m + 2 ≠ m by omega)
    have d1 := get_set_ne (b := MO.dict (put (.i (256 * (j : Int) + x)) (.int Ns.length) links)) c1 (show m + 2 ≠ m + 1 by omega)
    refine at_attr d1 d0 rfl ?_
    refine at_setAttr d1 d0 (Nat.lt_of_sub_eq_succ rfl) (Lk.mk ?_)
    have e : ((tabS m σ₁ Ns.length links).set (m + 2) (.dict (put (.i (256 * (j : Int) + x)) (.int Ns.length) links))).set m (nsT m (Ns.length + 1)) = tabS m σ₁ (Ns.length + 1) _ := tabS_step
    have g0 := tabS_0 (N := Ns.length + 1) (links := put (.i (256 * (j : Int) + x)) (.int Ns.length) links) k0
    have g1 : (tabS m σ₁ (Ns.length + 1) (put (.i (256 * (j : Int) + x)) (.int Ns.length) links))[m + 1]? = some (.inst m) := (tabS_ne (by omega) (by omega)).trans k1
    have g2 := tabS_2 (N := Ns.length + 1) (links := put (.i (256 * (j : Int) + x)) (.int Ns.length) links) k2
    rw [← e] at g0 g1 g2
    refine at_attr g1 g0 rfl ?_
    refine at_idx g2 T'.linksI (v := .int Ns.length) (by rw [look_put, if_pos rfl]) ?_
    refine k _ _ ⟨_, _, Ns.length, T', ?_, ?_, rfl, ?_⟩
    · rw [List.length_append]; exact Nat.add_le_add_right hNs 1
    · rw [take_snoc hx]; exact get_last _ _
    · rw [List.length_append]; exact e
  | some v =>
    obtain ⟨j', rfl, hj'⟩ := (T.link j (f.take i) x v hj h0 h1).mp hlk
    refine at_in c2 T.linksI (congrArg Option.isSome hlk) (Lk.mk ?_)
    refine at_attr c1 c0 rfl ?_
    refine at_idx c2 T.linksI hlk ?_
    refine k _ _ ⟨Ns, links, j', T, Nat.le_succ_of_le hNs, ?_, rfl, rfl⟩
    rw [take_snoc hx]; exact hj'

theorem add_run {m : Nat} {rows : Rows} {exc : List (K × V)} {f b w e ds : List Int} {dv : V} (T : Tab m σ rows exc) (h : Pat f b w e) (hd : Items σ dv (iv ds)) (hl : ds.length = f.length + 1) (hr : ∀ d ∈ ds, 0 ≤ d ∧ d ≤ 9)
    (hnew : ∀ row, (f, row) ∉ rows) (hrows : rows.length ≤ 100) (k : ∀ σ', Tab m σ' (rows ++ [(f, rowOf f ds)]) exc → σ'.length = σ.length + 1 → (∀ i, i < σ.length → (i < m ∨ m + 5 ≤ i) → σ'[i]? = σ[i]?) → Q .nul σ') :
    Cl (runW prog (n + 4)) 9 [.ref (m + 1), .seq false (iv f), dv] σ Q := by
  have hTlt := T.lt
  obtain ⟨⟨Ns, links, nums, t, hNs, c0, c2, c3⟩, c1, c4, excI⟩ := T
  have hfl := h.len
  have hsh := h.short
  obtain ⟨x, hx, _⟩ := h.first
  obtain ⟨y, hy, _⟩ := h.last
  refine Cl.go d9 rfl rfl ?_
  refine pattern_run h hd hl hr (And.intro rfl (Lk.mk ?_))
  refine at_inst c1 c0 (state_run t c1 c0 rfl c2 h.letters hnew fun s hs => ?_)
  refine at_attr c1 c0 rfl (at_in c3 t.numsI (congrArg Option.isSome hs) (Lk.mk ?_))
  refine hd.go (Lk.mk ?_)
  -- behind the row
  have tail : ∀ (ρ : Rho) (ds' : List Int), ds' = rowOf f ds → Has ρ [(1, .ref (m + 1)), (6, .seq false (iv f)), (14, .ref σ.length)] → Lk (Exs (drp 5 d9.2) (runW prog (n + 3)) ρ (σ ++ [.list (iv ds')]) (RetQ Q)) := by
    rintro ρ _ rfl hρ
    have old : ∀ {i : Nat} {a : MO}, σ[i]? = some a → (σ ++ [MO.list (iv (rowOf f ds))])[i]? = some a := get_old
    refine hρ.go (Lk.mk (Lk.mk (ov_seq ?_)))
    refine Exists.intro (AddInv m f nums rows Ns.length (σ ++ [.list (iv (rowOf f ds))]) σ.length) ⟨⟨Ns, links, 0, t, Nat.le_refl _, t.root, rfl, (tabS_self (old c0) (old c2)).symm⟩, ?_, ?_⟩
    · intro i v ρ' σ' hv I
      refine at_iv hv fun x hx => ?_
      have hx' := h.letters x (List.mem_of_getElem? hx)
      have hif := lt_at hx
      exact add_turn I (old c0) (old c1) (old c2) hx hx'.1 hx'.2 (by omega) fun ρ₂ σ₂ I' => And.intro trivial I'
    · intro ρ' σ' I
      obtain ⟨Ns', links', j, T', hNs', hj, hρ', rfl⟩ := I
      have ne : ∀ {i : Nat} {a : MO}, m ≠ i → m + 2 ≠ i → σ[i]? = some a → (tabS m (σ ++ [MO.list (iv (rowOf f ds))]) Ns'.length links')[i]? = some a := fun h0 h2 e => (tabS_ne h0 h2).trans (old e)
      have k0 := tabS_0 (N := Ns'.length) (links := links') (old c0)
      have k1 := ne (by omega) (by omega) c1
      have k2 := tabS_2 (N := Ns'.length) (links := links') (old c2)
      have k3 := ne (by omega) (by omega) c3
      have k4 := ne (by omega) (by omega) c4
      rw [take_all] at hj
      rw [iv_len] at hNs'
      refine hρ'.go (Lk.mk ?_)
      refine Exists.intro _ (And.intro ((tabS_ne (by omega) (by omega)).trans (get_last σ _)) ?_)
      refine at_attr k1 k0 rfl ?_
      refine at_put k3 T'.numsI (Nat.lt_of_le_of_lt (Nat.le_trans T'.numsLen hrows) (by decide)) ?_
      refine k _ ⟨⟨Ns', links', _, T'.row hj h.ne' (by rw [rowOf_len, hl]) hnew, ?_, get_set_ne k0 (by omega), get_set_ne k2 (by omega), get_set_eq k3⟩, get_set_ne k1 (by omega), get_set_ne k4 (by omega), excI⟩ ?_ ?_
      · rw [List.length_append, List.length_singleton]; omega
      · rw [List.length_set, tabS_len, List.length_append]; rfl
      · intro i hi ho
        rw [List.getElem?_set_ne (by omega), tabS_ne (by omega) (by omega), List.getElem?_append_left hi]
  have hlist : ∀ ds' : List Int, (σ ++ [MO.list (iv ds')])[σ.length]? = some (.list (iv ds')) := fun _ => get_last _ _
  -- the last letter
  have last : ∀ (ρ : Rho) (ds' : List Int), ds' = (if f.head? = some 0 then ds.set 0 0 else ds) → Has ρ [(1, .ref (m + 1)), (6, .seq false (iv f)), (14, .ref σ.length)] → Lk (Exs (drp 4 d9.2) (runW prog (n + 3)) ρ (σ ++ [.list (iv ds')]) (RetQ Q)) := by
    intro ρ ds' hds hρ
    have hdl : (iv ds').length = f.length + 1 := by rw [iv_len, hds]; split <;> first | exact hl | (rw [List.length_set]; exact hl)
    refine hρ.go (Lk.mk (ix_ivlast hy ?_))
    refine brS (fun hz => ?_) fun hz => ?_
    · refine at_setLast (hlist ds') (hdl ▸ Nat.succ_pos _) ?_
      rw [set_last, iv_len, iv_set]
      refine tail _ (ds'.set (ds'.length - 1) 0) ?_ rfl
      unfold rowOf
      rw [hy, hz, if_pos rfl, ← hds]
    · refine tail _ ds' ?_ rfl
      unfold rowOf
      rw [hy, if_neg (by simpa using hz), ← hds]
  have e0 : f.head? = some x := by rw [List.head?_eq_getElem?]; exact hx
  refine ix_iv hx rfl ?_
  refine brS (fun hz => ?_) fun hz => ?_
  · refine at_set (hlist ds) (j := 0) rfl (by rw [iv_len, hl]; exact Nat.succ_pos _) ?_
    rw [set_last, iv_set]
    exact last _ (ds.set 0 0) (by rw [e0, hz, if_pos rfl]) rfl
  · exact last _ ds (by rw [e0, if_neg (by simpa using hz)]) rfl
end
end Mine
end

section
set_option autoImplicit false
namespace Mine
open PySem

theorem getD_set {xs : List Int} {i s : Nat} {v : Int} (hi : i < xs.length) : (xs.set i v).getD s 0 = if s = i then v else xs.getD s 0 := by
  rw [List.getD_eq_getElem?_getD, List.getD_eq_getElem?_getD]
  split
  · rename_i h; subst h; rw [List.getElem?_set_self hi]; rfl
  · rename_i h; rw [List.getElem?_set_ne (fun e => h e.symm)]
theorem getD_at {xs : List Int} {i : Nat} (hi : i < xs.length) : xs[i]? = some (xs.getD i 0) := by
  rw [List.getD_eq_getElem?_getD, List.getElem?_eq_getElem hi]; rfl
section
variable {Ns : List (List Int)} {links nums : List (K × V)} {rows : Rows} {M : List Int}
theorem Trie.row_one (T : Trie Ns links nums rows) {f row row' : List Int} (h : (f, row) ∈ rows) (h' : (f, row') ∈ rows) : row = row' := by
  obtain ⟨j, hj⟩ := List.getElem?_of_mem (T.mem _ _ h)
  have a := (T.num j _).mpr ⟨j, f, row, rfl, hj, h, rfl⟩
  have b := (T.num j _).mpr ⟨j, f, row', rfl, hj, h', rfl⟩
  rw [a] at b
  injection b with b
  injection b with _ b
  exact ints_eq b
theorem prefix_take {f L : List Int} (h : f <+: L) : f = L.take f.length := by
  obtain ⟨t, e⟩ := h
  rw [← e]; simp
theorem SayP_end (T : Trie Ns links nums rows) {p₀ j s : Nat} (h : ∀ f row, (f, row) ∈ rows → f <+: M.drop p₀ → f.length ≤ j) (x : Int) : SayP rows M p₀ j s x ↔ SayP rows M (p₀ + 1) 0 s x := by
  constructor
  · rintro ⟨f, row, p, k, hm, h1, h2, h3, h4, h5⟩
    exact ⟨f, row, p, k, hm, h1, h2, h3, h4, .inl (by omega)⟩
  · rintro ⟨f, row, p, k, hm, h1, h2, h3, h4, h5⟩
    refine ⟨f, row, p, k, hm, h1, h2, h3, h4, ?_⟩
    rcases h5 with h5 | ⟨_, h5⟩
    · by_cases e : p = p₀
      · subst e; exact .inr ⟨rfl, h f row hm h3⟩
      · exact .inl (by omega)
    · exact absurd (List.length_eq_zero_iff.mp (by omega)) (T.rne f row hm)
theorem SayP_break (T : Trie Ns links nums rows) {p₀ j s : Nat} (h : (M.drop p₀).take (j + 1) ∉ Ns) (x : Int) : SayP rows M p₀ j s x ↔ SayP rows M (p₀ + 1) 0 s x := by
  refine SayP_end T (fun f row hm hp => ?_) x
  refine Nat.le_of_not_lt fun hlt => h ?_
  have := T.prefix_mem (T.mem _ _ hm) (j + 1)
  rw [prefix_take hp, List.take_take, Nat.min_eq_left (by omega)] at this
  exact this
theorem SayP_none {p₀ j s : Nat} (h : ∀ row, ((M.drop p₀).take (j + 1), row) ∉ rows) (x : Int) : SayP rows M p₀ j s x ↔ SayP rows M p₀ (j + 1) s x := by
  constructor
  · rintro ⟨f, row, p, k, hm, h1, h2, h3, h4, h5⟩
    exact ⟨f, row, p, k, hm, h1, h2, h3, h4, by omega⟩
  · rintro ⟨f, row, p, k, hm, h1, h2, h3, h4, h5⟩
    refine ⟨f, row, p, k, hm, h1, h2, h3, h4, ?_⟩
    rcases h5 with h5 | ⟨rfl, h5⟩
    · exact .inl h5
    · by_cases e : f.length = j + 1
      · rw [prefix_take h3, e] at hm
        exact absurd hm (h row)
      · exact .inr ⟨rfl, by omega⟩
theorem SayP_some (T : Trie Ns links nums rows) {p₀ j s : Nat} {row₀ : List Int} (hj : j < (M.drop p₀).length) (h : ((M.drop p₀).take (j + 1), row₀) ∈ rows) (x : Int) :
    (SayP rows M p₀ j s x ∨ (p₀ ≤ s ∧ row₀[s - p₀]? = some x)) ↔ SayP rows M p₀ (j + 1) s x := by
  have hl : ((M.drop p₀).take (j + 1)).length = j + 1 := by rw [List.length_take]; omega
  constructor
  · rintro (⟨f, row, p, k, hm, h1, h2, h3, h4, h5⟩ | ⟨h1, h2⟩)
    · exact ⟨f, row, p, k, hm, h1, h2, h3, h4, by omega⟩
    · have hr := T.rlen _ _ h
      have := (List.getElem?_eq_some_iff.mp h2).1
      exact ⟨_, row₀, p₀, s - p₀, h, by omega, by omega, List.take_prefix _ _, h2, .inr ⟨rfl, by omega⟩⟩
  · rintro ⟨f, row, p, k, hm, h1, h2, h3, h4, h5⟩
    rcases h5 with h5 | ⟨rfl, h5⟩
    · exact .inl ⟨f, row, p, k, hm, h1, h2, h3, h4, .inl h5⟩
    · by_cases e : f.length = j + 1
      · right
        have e' := prefix_take h3
        rw [e] at e'
        rw [e'] at hm
        rw [T.row_one hm h] at h4
        refine ⟨by omega, ?_⟩
        rw [← h4]; congr 1; omega
      · exact .inl ⟨f, row, p, k, hm, h1, h2, h3, h4, .inr ⟨rfl, by omega⟩⟩
end


noncomputable def GE (m rr : Nat) (M : List Int) (p₀ : Nat) : List (Nat × V) := [(1, .ref (m + 1)), (8, .int p₀), (12, .ref rr), (19, .seq false (iv M))]
noncomputable def Fs (σ : St) (rows : Rows) (M : List Int) (p₀ j : Nat) (σ' : St) : Prop := ∃ fs : List Int, C3 (σ' = σ ++ [.list (iv fs)]) (fs.length = M.length + 1) (∀ s, s ≤ M.length → Best (SayP rows M p₀ j s) (fs.getD s 0))
theorem Fs.congr {σ : St} {rows : Rows} {M : List Int} {p₀ j p₁ j₁ : Nat} {σ' : St} (h : Fs σ rows M p₀ j σ') (e : ∀ s x, SayP rows M p₀ j s x ↔ SayP rows M p₁ j₁ s x) : Fs σ rows M p₁ j₁ σ' :=
  let ⟨fs, a, b, c⟩ := h; ⟨fs, a, b, fun s hs => (c s hs).congr (e s)⟩

noncomputable def gapInner : TSs := (.cons (.setIdx (.var 12) (.var 15) (.prim .max false (.cons (.idx (.var 12) (.var 15)) (.cons (.var 11) .nil)))) (.cons (.augName 15 .add (.lit (.int 1))) .nil))
noncomputable def gapMid : TSs := (.cons (.assign 13 (.get (.attr (.var 1) 0) (.bin .add (.bin .mul (.lit (.int 256)) (.var 13)) (.var 7)) (.neg (.lit (.int 1)))))
  (.cons (.ite (.cmp .lt (.var 13) (.lit (.int 0))) (.cons .brk .nil) .nil)
  (.cons (.assign 15 (.var 8))
  (.cons (.forin [11] (.get (.attr (.var 1) 1) (.var 13) (.seq true false .nil)) gapInner)
  .nil))))

section
variable {σ : St} {cal : PC} {Q : Fl → Rho → St → Prop}
theorem gap_inner {m p₀ : Nat} {M row : List Int} {fs : List Int} {i : Nat} {ρ : Rho} {t : Bool} {u : List V} (hρ : Has ρ ((13, .int i) :: (15, .int p₀) :: GE m σ.length M p₀)) (hfs : fs.length = M.length + 1) (hrow : p₀ + row.length ≤ M.length + 1)
    (k : ∀ ρ' fs', Has ρ' ((13, .int i) :: GE m σ.length M p₀) → fs'.length = M.length + 1 → (∀ s, fs'.getD s 0 = if p₀ ≤ s ∧ s < p₀ + row.length then max (fs.getD s 0) (row.getD (s - p₀) 0) else fs.getD s 0) → Q .next ρ' (σ ++ [.list (iv fs')])) :
    LoopW cal [11] (iv row) (Exs gapInner) (.seq t u) ρ (σ ++ [.list (iv fs)]) Q := by
  refine Exists.intro (fun j ρ' σ' => ∃ fs' : List Int, C4 (Has ρ' ((13, .int i) :: (15, .int ((p₀ + j : Nat) : Int)) :: GE m σ.length M p₀)) (σ' = σ ++ [.list (iv fs')]) (fs'.length = M.length + 1) (∀ s, fs'.getD s 0 = if p₀ ≤ s ∧ s < p₀ + j then max (fs.getD s 0) (row.getD (s - p₀) 0) else fs.getD s 0)) ⟨⟨fs, hρ, rfl, hfs, fun s => by rw [if_neg (by omega)]⟩, ?_, ?_⟩
  · intro j v ρ' σ' hv hP
    refine at_iv hv fun x hx => ?_
    obtain ⟨fs', hρ', rfl, hl', hs'⟩ := hP
    have ht := lt_at hx
    have hat := getD_at (xs := fs') (i := p₀ + j) (by omega)
    refine hρ'.go ?_
    refine ix_list (get_last σ _) (iv_at hat) rfl ?_
    refine at_set (get_last σ _) (j := p₀ + j) rfl (by rw [iv_len]; omega) (Lk.mk ?_)
    refine And.intro trivial ⟨fs'.set (p₀ + j) (max (fs'.getD (p₀ + j) 0) x), rfl, ?_, ?_, fun s => ?_⟩
    · rw [set_last, iv_set]
    · rw [List.length_set]; exact hl'
    rw [getD_set (by omega)]
    by_cases e : s = p₀ + j
    · subst e
      rw [if_pos rfl, if_pos (by omega), hs', if_neg (by omega)]
      congr 1
      rw [show p₀ + j - p₀ = j by omega, List.getD_eq_getElem?_getD, hx]; rfl
    · rw [if_neg e, hs']
      by_cases q : p₀ ≤ s ∧ s < p₀ + j
      · rw [if_pos q, if_pos (by omega)]
      · rw [if_neg q, if_neg (by omega)]
  · intro ρ' σ' hP
    obtain ⟨fs', hρ', rfl, hl', hs'⟩ := hP
    rw [iv_len] at hs'
    have e : Has ρ' ((13, .int i) :: GE m σ.length M p₀) := hρ'.go (G := fun ρ => Has ρ _) rfl
    exact k ρ' fs' e hl' hs'

theorem gap_mid {m p₀ j i : Nat} {M : List Int} {Ns : List (List Int)} {links nums : List (K × V)} {rows : Rows} {es : List (Nat × V)} {ρ : Rho} {σ' : St} {x : Int} (T : Trie Ns links nums rows) (c1 : σ[m + 1]? = some (.inst m)) (c0 : σ[m]? = some (.ns es))
    (e0 : nsLookup 0 es = some (.ref (m + 2))) (e1 : nsLookup 1 es = some (.ref (m + 3))) (c2 : σ[m + 2]? = some (.dict links)) (c3 : σ[m + 3]? = some (.dict nums))
    (hρ : Has ρ ((13, .int i) :: GE m σ.length M p₀)) (hi : Ns[i]? = some ((M.drop p₀).take j)) (F : Fs σ rows M p₀ j σ') (hx : (M.drop p₀)[j]? = some x) (h0 : 0 ≤ x) (h1 : x ≤ 255)
    (kb : ∀ ρ₂, Has ρ₂ (GE m σ.length M p₀) → Fs σ rows M (p₀ + 1) 0 σ' → Q .brk ρ₂ σ')
    (k : ∀ ρ₂ σ₂ (i : Nat), Ns[i]? = some ((M.drop p₀).take (j + 1)) → Has ρ₂ ((13, .int i) :: GE m σ.length M p₀) → Fs σ rows M p₀ (j + 1) σ₂ → Q .next ρ₂ σ₂) :
    Exs gapMid cal (upd ρ 7 (.int x)) σ' Q := by
  obtain ⟨fs, rfl, hfs, hb⟩ := F
  have hjl := lt_at hx
  have hd : M.length - p₀ = (M.drop p₀).length := by rw [List.length_drop]
  have ht : (M.drop p₀).take j ++ [x] = (M.drop p₀).take (j + 1) := (take_snoc hx).symm
  have L := fun v => T.link i _ x v hi h0 h1
  have d0 : (σ ++ [MO.list (iv fs)])[m]? = some (.ns es) := get_old c0
  have d1 : (σ ++ [MO.list (iv fs)])[m + 1]? = some (.inst m) := get_old c1
  have d2 : (σ ++ [MO.list (iv fs)])[m + 2]? = some (.dict links) := get_old c2
  have d3 : (σ ++ [MO.list (iv fs)])[m + 3]? = some (.dict nums) := get_old c3
  refine hρ.go ?_
  refine at_attr d1 d0 e0 (at_dict d2 T.linksI (And.intro rfl ?_))
  cases hlk : look (.i (256 * (i : Int) + x)) links with
  | none =>
    refine at_get d2 T.linksI (congrArg (Option.getD · _) hlk) (Lk.mk ?_)
    refine kb _ rfl (Fs.congr ⟨fs, rfl, hfs, hb⟩ fun s y => SayP_break T (fun hm => ?_) y)
    obtain ⟨j', hj'⟩ := List.getElem?_of_mem hm
    have := (L (.int j')).mpr ⟨j', rfl, by rw [ht]; exact hj'⟩
    rw [hlk] at this; cases this
  | some v =>
    obtain ⟨i', rfl, hi'⟩ := (L v).mp hlk
    rw [ht] at hi'
    refine at_get d2 T.linksI (congrArg (Option.getD · _) hlk) (Lk.mk (Lk.mk (Lk.mk ?_)))
    refine at_attr d1 d0 e1 (at_dict d3 T.numsI (And.intro (ll rfl) ?_))
    have key : ∀ (row : List Int), p₀ + row.length ≤ M.length + 1 → (∀ s y, (SayP rows M p₀ j s y ∨ (p₀ ≤ s ∧ row[s - p₀]? = some y)) ↔ SayP rows M p₀ (j + 1) s y) → ∀ {ρ : Rho} {t : Bool} {u : List V}, Has ρ ((13, .int i') :: (15, .int p₀) :: GE m σ.length M p₀) → LoopW cal [11] (iv row) (Exs gapInner) (.seq t u) ρ (σ ++ [.list (iv fs)]) Q := by
      intro row hlen hsay ρ t u hρ
      refine gap_inner hρ hfs hlen fun ρ' fs' hρ' hl' hs' => k ρ' _ i' hi' hρ' ⟨fs', rfl, hl', fun s hs => ?_⟩
      rw [hs' s]
      split
      · rename_i q
        refine (hb s hs).max.congr fun y => ?_
        rw [← hsay s y, getD_at (xs := row) (i := s - p₀) (by omega), Option.some.injEq]
        exact ⟨fun h => h.imp id fun h => ⟨q.1, h.symm⟩, fun h => h.imp id fun h => h.2.symm⟩
      · rename_i q
        refine (hb s hs).congr fun y => ?_
        rw [← hsay s y]
        exact ⟨.inl, fun h => h.elim id fun ⟨h, h'⟩ => by have := lt_at h'; omega⟩
    cases hnk : look (.i (i' : Int)) nums with
    | none =>
      refine at_get d3 T.numsI (congrArg (Option.getD · _) hnk) (ov_seq ?_)
      refine key [] (by simp; omega) (fun s y => ?_) rfl
      rw [← SayP_none (j := j)]
      · simp
      · intro row hm
        have := (T.num i' _).mpr ⟨i', _, row, rfl, hi', hm, rfl⟩
        rw [hnk] at this; cases this
    | some v =>
      obtain ⟨j2, f, row, e2, hj2, hm, rfl⟩ := (T.num _ _).mp hnk
      rw [← Int.ofNat.inj e2, hi'] at hj2
      cases hj2
      have hrl := T.rlen _ _ hm
      rw [List.length_take] at hrl
      refine at_get d3 T.numsI (congrArg (Option.getD · _) hnk) (ov_seq ?_)
      exact key row (by omega) (fun s y => SayP_some T hjl hm y) rfl
end

section
variable {n : Nat} {σ : St} {Q : V → St → Prop}
theorem gap_run {m : Nat} {rows : Rows} {exc : List (K × V)} {w : List Int} {t : Bool} (T : Tab m σ rows exc) (hw : ∀ l ∈ w, 0 ≤ l ∧ l ≤ 255) (hl : w.length ≤ 100)
    (k : ∀ nums fs : List Int, nums.length = w.length + 1 → (∀ g, g ≤ w.length → Told rows ((0 :: w ++ [0]).take (g + 1)) ((0 :: w ++ [0]).drop (g + 1)) (nums.getD g 0)) → Q (.seq false (iv nums)) (σ ++ [.list (iv fs)])) :
    Cl (runW prog (n + 1)) 11 [.ref (m + 1), .seq t (iv w)] σ Q := by
  obtain ⟨⟨Ns, links, nums, tr, hNs, c0, c2, c3⟩, c1, c4, excI⟩ := T
  refine Cl.go d11 rfl rfl ?_
  refine And.intro (ll rfl) (add_iv [0] w rfl rfl (by rw [List.length_singleton]; omega) (And.intro (ll rfl) (add_iv ([0] ++ w) [0] rfl rfl (by rw [List.length_append, List.length_singleton]; omega) (Lk.mk ?_))))
  have hM : ([0] ++ w ++ [0]).length = w.length + 2 := by simp only [List.length_append, List.length_singleton]; omega
  have hMl : ∀ l ∈ ([0] ++ w ++ [0]), 0 ≤ l ∧ l ≤ 255 := by
    intro l hlm
    rcases List.mem_append.mp hlm with hlm | h
    · rcases List.mem_append.mp hlm with h | h
      · rw [List.mem_singleton.mp h]; decide
      · exact hw l h
    · rw [List.mem_singleton.mp h]; decide
  have k' : ∀ nums fs : List Int, nums.length = w.length + 1 → (∀ g, g ≤ w.length → Told rows (([0] ++ w ++ [0]).take (g + 1)) (([0] ++ w ++ [0]).drop (g + 1)) (nums.getD g 0)) → Q (.seq false (iv nums)) (σ ++ [.list (iv fs)]) := k
  clear k
  generalize ([0] ++ w ++ [0]) = M at *
  have hMi : ((iv M).length : Int) = (M.length : Nat) := by rw [iv_len]
  refine And.intro (ll rfl) (mul_iv 0 (M.length + 1) rfl (by rw [hMi]; rfl) (by omega) (Lk.mk ?_))
  refine And.intro (small_nat _ hMi (by omega)) (ov_rng0 M.length hMi (by omega) ?_)
  refine Exists.intro (fun p ρ' σ' => Has ρ' [(1, .ref (m + 1)), (12, .ref σ.length), (19, .seq false (iv M))] ∧ Fs σ rows M p 0 σ') ⟨⟨rfl, _, rfl, List.length_replicate, fun s hs => ?_⟩, ?_, ?_⟩
  · rw [List.getD_eq_getElem?_getD, List.getElem?_replicate, if_pos (by omega)]
    refine Best.zero fun x => ?_
    rintro ⟨f, row, p, k, hm, h1, h2, h3, h4, h5⟩
    rcases h5 with h5 | ⟨_, h5⟩
    · omega
    · exact tr.rne f row hm (List.length_eq_zero_iff.mp (by omega))
  · intro p v ρ σ' hv hP
    refine at_iv hv fun x hx => ?_
    obtain ⟨hp, rfl⟩ := rangeI_at hx
    rw [Int.zero_add]
    refine hP.1.go (Lk.mk ?_)
    refine sl_seq (CutI.in rfl) (ov_seq ?_)
    refine Exists.intro (fun j ρ' σ' => (∃ i : Nat, Ns[i]? = some ((M.drop p).take j) ∧ Has ρ' ((13, .int i) :: GE m σ.length M p)) ∧ Fs σ rows M p j σ') ⟨⟨⟨0, tr.root, rfl⟩, hP.2⟩, ?_, ?_⟩
    · intro j v ρ' σ'' hv hP
      refine at_iv hv fun x hx => ?_
      obtain ⟨⟨i, hi, hρ⟩, F⟩ := hP
      have hx' := hMl x (List.mem_of_mem_drop (List.mem_of_getElem? hx))
      refine gap_mid tr c1 c0 rfl rfl c2 c3 hρ hi F hx hx'.1 hx'.2 (fun ρ₂ h F => ?_) fun ρ₂ σ₂ i hi h F => And.intro trivial ⟨⟨i, hi, h⟩, F⟩
      refine And.intro trivial ⟨?_, F⟩
      exact h.go (G := fun ρ => Has ρ _) rfl
    · intro ρ' σ'' hP
      obtain ⟨⟨i, hi, hρ⟩, F⟩ := hP
      refine And.intro trivial ⟨hρ.go (G := fun ρ => Has ρ _) rfl, F.congr fun s y => SayP_end tr (fun f row hm hp => ?_) y⟩
      rw [iv_len]
      exact hp.length_le
  · intro ρ' σ' hP
    obtain ⟨hρ, fs, rfl, hfs, hb⟩ := hP
    rw [iv_len, length_rangeI] at hb
    refine hρ.go (Lk.mk ?_)
    refine sl_list (get_last σ _) (CutI.ii (a := 1) rfl hMi) ?_
    refine k' _ fs ?_ fun g hg => ?_
    · rw [List.length_drop, List.length_take]; omega
    · have := (hb (g + 1) (by omega)).congr (SayP_told tr.rne (by omega))
      rw [List.getD_eq_getElem?_getD, List.getElem?_drop, List.getElem?_take, if_pos (by omega), ← List.getD_eq_getElem?_getD, Nat.add_comm 1 g]
      exact this
end
end Mine
end

section
set_option autoImplicit false
namespace Mine
open PySem

noncomputable def DAt (lo : Nat) (σ : St) (dv : V) (ds : List Int) : Prop := dv = .seq false (iv ds) ∨ ∃ r, dv = .ref r ∧ lo ≤ r ∧ σ[r]? = some (.list (iv ds))
theorem DAt.items {lo : Nat} {σ : St} {dv : V} {ds : List Int} (h : DAt lo σ dv ds) : Items σ dv (iv ds) := h.imp id fun ⟨r, a, _, b⟩ => ⟨r, a, b⟩
theorem DAt.keep {lo : Nat} {σ σ' : St} {dv : V} {ds : List Int} (h : DAt lo σ dv ds) (k : ∀ i, lo ≤ i → i < σ.length → σ'[i]? = σ[i]?) : DAt lo σ' dv ds :=
  h.imp id fun ⟨r, a, hr, b⟩ => ⟨r, a, hr, (k r hr (lt_at b)).trans b⟩
structure FormsAt (lo : Nat) (σ : St) (fl : Nat) (fs : Rows) : Prop where
  above : lo ≤ fl
  ex : ∃ items : List V, C3 (σ[fl]? = some (.list items)) (items.length = fs.length) (∀ (i : Nat) (f ds : List Int), fs[i]? = some (f, ds) → ∃ dv, items[i]? = some (.seq true [.seq false (iv f), dv]) ∧ DAt lo σ dv ds)
theorem FormsAt.keep {lo fl : Nat} {σ σ' : St} {fs : Rows} (h : FormsAt lo σ fl fs) (k : ∀ i, lo ≤ i → i < σ.length → σ'[i]? = σ[i]?) : FormsAt lo σ' fl fs :=
  let ⟨hlo, items, h1, h2, h3⟩ := h
  ⟨hlo, items, (k fl hlo (lt_at h1)).trans h1, h2, fun i f ds hi => let ⟨dv, a, b⟩ := h3 i f ds hi; ⟨dv, a, b.keep k⟩⟩
theorem forms_turn {fs : Rows} {items : List V} {P : List Int → List Int → V → Prop} (h2 : items.length = fs.length) (h3 : ∀ (i : Nat) (f ds : List Int), fs[i]? = some (f, ds) → ∃ dv, items[i]? = some (.seq true [.seq false (iv f), dv]) ∧ P f ds dv) {i : Nat} {v : V} {G : V → Prop}
    (hv : items[i]? = some v) (k : ∀ f ds dv, fs[i]? = some (f, ds) → P f ds dv → G (.seq true [.seq false (iv f), dv])) : G v := by
  have hi : i < fs.length := h2 ▸ lt_at hv
  obtain ⟨dv, a, b⟩ := h3 i _ _ (List.getElem?_eq_getElem hi)
  rw [hv] at a
  cases a
  exact k _ _ dv (List.getElem?_eq_getElem hi) b
structure FormsOK (fs : Rows) : Prop where
  pat : ∀ f ds, (f, ds) ∈ fs → (∃ b w e, Pat f b w e) ∧ ds.length = f.length + 1 ∧ ∀ d ∈ ds, 0 ≤ d ∧ d ≤ 9
  apart : ∀ (i j : Nat) (f ds ds' : List Int), fs[i]? = some (f, ds) → fs[j]? = some (f, ds') → i = j
  few : fs.length ≤ 50
noncomputable def rowsOf (fs : Rows) : Rows := fs.map fun x => (x.1, rowOf x.1 x.2)

section
variable {n : Nat} {σ : St} {Q : V → St → Prop}
theorem table_run {lo fl : Nat} {fs : Rows} (h : FormsAt lo σ fl fs) (hok : FormsOK fs) (k : ∀ σ', Tab σ.length σ' (rowsOf fs) [] → (∀ i, i < σ.length → σ'[i]? = σ[i]?) → Q (.ref (σ.length + 1)) σ') : Cl (runW prog (n + 5)) 18 [.ref fl] σ Q := by
  obtain ⟨hlo, items, h1, h2, h3⟩ := h
  have hfl := lt_at h1
  refine Cl.go d18 rfl rfl ?_
  refine new_run fun σ₁ T₁ hl₁ hk₁ => And.intro rfl (Lk.mk ?_)
  refine ov_list ((hk₁ fl hfl).trans h1) ?_
  refine Exists.intro (fun i ρ' σ' => C3 (Has ρ' [(38, .ref (σ.length + 1))]) (Tab σ.length σ' (rowsOf (fs.take i)) []) (∀ i, i < σ.length → σ'[i]? = σ[i]?)) ⟨⟨rfl, T₁, hk₁⟩, ?_, ?_⟩
  · intro i v ρ σ' hv hP
    obtain ⟨hρ, T, hk⟩ := hP
    refine forms_turn (G := fun v => bindW _ v _ _) h2 h3 hv fun f ds dv hfd hd => ?_
    obtain ⟨⟨b, w, e, hp⟩, hdl, hdr⟩ := hok.pat f ds (List.mem_of_getElem? hfd)
    have hd' := (hd.keep (σ' := σ') fun i _ hi => hk i hi).items
    obtain ⟨Ns, links, nums, _, _, c0, _⟩ := T.ex
    refine hρ.go ?_
    refine at_inst T.inst c0 (add_run T hp hd' hdl hdr (fun row hm => ?_) ?_ fun σ₂ T₂ hl₂ hk₂ => ?_)
    · obtain ⟨⟨f', ds'⟩, hm', he⟩ := List.mem_map.mp hm
      cases he
      obtain ⟨j, hj⟩ := List.getElem?_of_mem hm'
      rw [List.getElem?_take] at hj
      split at hj
      · rename_i hlt
        exact absurd (hok.apart _ _ _ _ _ hj hfd) (Nat.ne_of_lt hlt)
      · cases hj
    · rw [rowsOf, List.length_map]
      exact Nat.le_trans (List.length_take_le' _ _) (Nat.le_trans hok.few (by decide))
    · have hlen : ∀ i, i < σ.length → i < σ'.length := fun i hi => lt_at ((hk i hi).trans (List.getElem?_eq_getElem hi))
      have hk' : ∀ i, i < σ.length → σ₂[i]? = σ[i]? := fun i hi => (hk₂ i (hlen i hi) (.inl hi)).trans (hk i hi)
      refine And.intro rfl (And.intro ((hk' fl hfl).trans (hk₁ fl hfl).symm) ⟨rfl, ?_, hk'⟩)
      rw [take_snoc hfd, rowsOf, List.map_append]
      exact T₂
  · intro ρ' σ' hP
    obtain ⟨hρ, T, hk⟩ := hP
    rw [h2, List.take_length] at T
    exact hρ.go (Lk.mk (k σ' T hk))

theorem exc_run {m : Nat} {rows : Rows} {exc : List (K × V)} {w ps : List Int} (T : Tab m σ rows exc) (hne : w ≠ []) (hw : ∀ l ∈ w, 1 ≤ l ∧ l ≤ 255) (hl : w.length ≤ 63) (hp : ∀ p ∈ ps, 0 ≤ p ∧ p ≤ w.length) (hx : exc.length < 1000)
    (k : Q .nul (σ.set (m + 4) (.dict (put (.i (wkey w)) (.seq true (iv ((rangeI 0 (w.length + 1)).filter fun p => decide (p ∈ ps)))) exc)))) :
    Cl (runW prog (n + 3)) 10 [.ref (m + 1), .seq false (iv w), .seq false (iv ps)] σ Q := by
  obtain ⟨⟨Ns, links, nums, t, hNs, c0, c2, c3⟩, c1, c4, excI⟩ := T
  have hwl : ((iv w).length : Int) = (w.length : Nat) := by rw [iv_len]
  refine Cl.go d10 rfl rfl (Lk.mk ?_)
  refine word_run hne hw (brF (by omega) (Lk.mk (ov_seq ?_)))
  refine Exists.intro (fun _ ρ' σ' => σ' = σ ∧ Has ρ' [(1, .ref (m + 1)), (6, .seq false (iv w)), (17, .seq false (iv ps))]) ⟨⟨rfl, rfl⟩, ?_, ?_⟩
  · intro i v ρ σ₁ hv hP
    refine at_iv hv fun x hx => ?_
    obtain ⟨rfl, hρ⟩ := hP
    refine hρ.go (whole_run (brNF ?_ ?_))
    · rw [hwl]; exact hp x (List.mem_of_getElem? hx)
    · exact And.intro trivial ⟨rfl, rfl⟩
  · intro ρ' σ' hP
    obtain ⟨rfl, hρ⟩ := hP
    refine hρ.go (Lk.mk ?_)
    have e1 : ((iv w).length : Int) + 1 = (w.length + 1 : Nat) := by rw [hwl]; rfl
    refine And.intro (small_nat _ e1 (by omega)) (ov_rng0 (w.length + 1) e1 (by omega) ?_)
    refine comp_filter (fun p => decide (p ∈ ps)) (by rw [length_rangeI]; omega) (fun x _ G g => in_iv g) (fun _ _ g => g) trivial ?_
    refine at_attr c1 c0 rfl (key_run ?_)
    exact at_put c4 excI (lim' (Nat.le_of_lt hx)) k

noncomputable abbrev ToldAt (rows : Rows) (w : List Int) (g : Nat) (x : Int) : Prop := Told rows ((0 :: w ++ [0]).take (g + 1)) ((0 :: w ++ [0]).drop (g + 1)) x
noncomputable def letL (w : List Int) (a b : Int) : List Int := rangeI (min (max a 1) 63) ((((w.take 63).length : Nat) : Int) - min (max b 1) 63 + 1 - min (max a 1) 63).toNat
theorem ends_of (a : Int) : 1 ≤ min (max a 1) 63 ∧ min (max a 1) 63 ≤ 63 := ⟨Int.le_min.mpr ⟨Int.le_max_right _ _, by decide⟩, Int.min_le_right _ _⟩
theorem mem_letL_iff {w : List Int} {a b p : Int} : p ∈ letL w a b ↔ min (max a 1) 63 ≤ p ∧ p ≤ ((w.take 63).length : Nat) - min (max b 1) 63 := by
  unfold letL
  rw [mem_rangeI]
  generalize min (max a 1) 63 = x, min (max b 1) 63 = y
  omega
theorem mem_letL {w : List Int} {a b p : Int} (h : p ∈ letL w a b) : 1 ≤ p ∧ p < (w.take 63).length := by
  rw [mem_letL_iff] at h
  exact ⟨Int.le_trans (ends_of a).1 h.1, Int.lt_of_le_sub_one (Int.le_trans h.2 (Int.sub_le_sub_left (ends_of b).1 _))⟩
theorem ends_eq (a : Int) : max 1 (min 63 a) = min (max a 1) 63 := by
  rcases Int.le_total a 1 with h | h
  · rw [Int.max_eq_right h, Int.min_comm, Int.min_eq_left (Int.le_trans h (by decide)), Int.max_eq_left h]; rfl
  · rw [Int.max_eq_left h, Int.min_comm 63 a, Int.max_eq_right (Int.le_min.mpr ⟨h, by decide⟩)]
theorem letL_few (w : List Int) (a b : Int) : (letL w a b).length ≤ 1000 := by
  have h : (w.take 63).length ≤ 63 := List.length_take_le 63 w
  have h1 := ends_of a
  have h2 := ends_of b
  unfold letL
  rw [length_rangeI]
  generalize min (max a 1) 63 = x at *
  generalize min (max b 1) 63 = y at *
  omega
theorem ov_let {w : List Int} {a b : Int} {K : List V → Prop} (q : K (iv (letL w a b))) : overW σ (.rng (min (max a 1) 63) (((w.take 63).length : Nat) - min (max b 1) 63 + 1)) K := by
  have h : (w.take 63).length ≤ 63 := List.length_take_le 63 w
  have h1 := ends_of a
  have h2 := ends_of b
  refine ov_rng _ (small2 ?_ ?_ ?_ ?_) rfl q <;> (generalize min (max a 1) 63 = x at *; generalize min (max b 1) 63 = y at *; omega)
theorem slice63 {t : Bool} {Q : V → Prop} {w : List Int} (q : Q (.seq t (iv (w.take 63)))) : sliceW σ (.seq t (iv w)) .nul (.int 63) Q := by
  cases t with
  | true => exact sl_tup (by decide) (by rw [iv, ← List.map_take]; exact q)
  | false => exact sl_seq (CutI.ni rfl) q

theorem points_head {m : Nat} {rows : Rows} {exc : List (K × V)} {w : List Int} {t : Bool} {a b : Int} {u : V} (T : Tab m σ rows exc) (hne : w ≠ []) (hw : ∀ l ∈ w, 1 ≤ l ∧ l ≤ 255) (hn : (look (.i (wkey (w.take 63))) exc).getD .nul = u)
    (k : ∀ ρ, Has ρ [(1, .ref (m + 1)), (22, .seq false (iv (w.take 63))), (23, .int (min (max a 1) 63)), (24, .int (((w.take 63).length : Nat) - min (max b 1) 63)), (25, u)] → Lk (Exs (drp 4 d12.2) (runW prog (n + 2)) ρ σ (RetQ Q))) :
    Cl (runW prog (n + 3)) 12 [.ref (m + 1), .seq t (iv w), .int a, .int b] σ Q := by
  obtain ⟨⟨Ns, links, nums, tr, hNs, c0, c2, c3⟩, c1, c4, excI⟩ := T
  refine Cl.go d12 rfl rfl (word_run hne hw (Lk.mk (slice63 ?_)))
  have key : ∀ ρ, Has ρ [(1, .ref (m + 1)), (20, .int a), (21, .int b), (22, .seq false (iv (w.take 63)))] → Lk (Exs (drp 2 d12.2) (runW prog (n + 2)) ρ σ (RetQ Q)) := fun ρ hρ => by
    refine hρ.go (Lk.mk (least_run (least_run (And.intro (ll rfl) (Lk.mk ?_)))))
    refine at_attr (k := 3) c1 c0 rfl (at_dict c4 excI (key_run ?_))
    refine at_get c4 excI hn (k _ ?_)
    show [_, _, _, _, _] = _
    rw [ends_eq, ends_eq, iv_len]
    rfl
  refine key _ ?_
  rfl

theorem points_run {m : Nat} {rows : Rows} {exc : List (K × V)} {w : List Int} {t : Bool} {a b : Int} (T : Tab m σ rows exc) (hne : w ≠ []) (hw : ∀ l ∈ w, 1 ≤ l ∧ l ≤ 255) (hn : look (.i (wkey (w.take 63))) exc = none)
    (k : ∀ nums fs : List Int, (∀ g, g ≤ (w.take 63).length → ToldAt rows (w.take 63) g (nums.getD g 0)) → Q (.seq false (iv ((letL w a b).filter fun p => decide (nums.getD p.toNat 0 % 2 = 1)))) (σ ++ [.list (iv fs)])) :
    Cl (runW prog (n + 3)) 12 [.ref (m + 1), .seq t (iv w), .int a, .int b] σ Q := by
  refine points_head T hne hw (congrArg (Option.getD · _) hn) fun ρ hρ => ?_
  have hl : (w.take 63).length ≤ 63 := List.length_take_le 63 w
  obtain ⟨Ns, links, nums, tr, hNs, c0, c2, c3⟩ := T.ex
  refine hρ.go (Lk.mk (Lk.mk ?_))
  refine at_inst T.inst c0 (gap_run T (fun l hl => ?_) (Nat.le_trans hl (by decide)) fun nums fs hnl htold => Lk.mk ?_)
  · have := hw l (List.mem_of_mem_take hl)
    exact ⟨Int.le_trans (by decide) this.1, this.2⟩
  have h1 := ends_of a
  have h2 := ends_of b
  refine And.intro ?_ (ov_let ?_)
  · generalize min (max a 1) 63 = x at *
    generalize min (max b 1) 63 = y at *
    exact small2 (by omega) (by omega) (by omega) (by omega)
  refine comp_filter (fun p => decide (nums.getD p.toNat 0 % 2 = 1)) (letL_few w a b) (fun p hp G g => ?_) (fun _ _ g => g) trivial (k nums fs htold)
  have hp' := mem_letL hp
  refine ix_iv (getD_at (i := p.toNat) (by omega)) (by omega) ?_
  exact And.intro (by decide) g

theorem kept_run {m : Nat} {rows : Rows} {exc : List (K × V)} {w ps : List Int} {t : Bool} {a b : Int} (T : Tab m σ rows exc) (hne : w ≠ []) (hw : ∀ l ∈ w, 1 ≤ l ∧ l ≤ 255) (hn : look (.i (wkey (w.take 63))) exc = some (.seq true (iv ps))) (hps : ps.length ≤ 1000)
    (k : Q (.seq false (iv (ps.filter fun p => decide (p ∈ letL w a b)))) σ) :
    Cl (runW prog (n + 3)) 12 [.ref (m + 1), .seq t (iv w), .int a, .int b] σ Q := by
  refine points_head T hne hw (congrArg (Option.getD · _) hn) fun ρ hρ => ?_
  refine hρ.go (Lk.mk (ov_seq ?_))
  refine comp_filter (fun p => decide (p ∈ letL w a b)) hps (fun p hp G g => ?_) (fun _ _ g => g) trivial k
  rw [decide_eq_decide.mpr mem_letL_iff] at g
  exact brV (Q := fun b => G (.bool b) σ) (fun _ h => h) g

noncomputable def numOf : Option V → Int
  | some (.int x) => x
  | _ => 0
theorem lpoints_run {k r0 r1 : Nat} {es : List (K × V)} {w : List Int} {a b : Int} (hk : σ[k]? = some (.dict es)) (hT : es.all (fun e => e.1.isI == false) = true) (h0 : r0 ≤ 100) (h1 : r1 ≤ 100)
    (hex : ∀ g, g ≤ (w.take 63).length → ∃ x, look (.t (viewL (w.take 63) g r0 r1)) es = some (.int x))
    (q : Q (.seq false (iv ((letL w a b).filter fun p => decide (numOf (look (.t (viewL (w.take 63) p.toNat r0 r1)) es) % 2 = 1)))) σ) :
    Cl (runW prog (n + 2)) 24 [.ref k, .seq false (iv w), .seq true [.int r0, .int r1], .seq true [.int a, .int b]] σ Q := by
  have hl : (w.take 63).length ≤ 100 := Nat.le_trans (List.length_take_le 63 w) (by decide)
  refine Cl.go d24 rfl rfl (let_run (ov_let ?_))
  refine comp_filter (fun p => decide (numOf (look (.t (viewL (w.take 63) p.toNat r0 r1)) es) % 2 = 1)) (letL_few w a b) (fun p hp G g => ?_) (fun _ _ g => g) trivial q
  have hp' := mem_letL hp
  obtain ⟨q, rfl⟩ := Int.eq_ofNat_of_zero_le (Int.le_trans (by decide) hp'.1)
  have hq : q ≤ (w.take 63).length := Int.ofNat_le.mp (Int.le_of_lt hp'.2)
  obtain ⟨x, hx⟩ := hex q hq
  rw [Int.toNat_natCast, hx] at g
  refine slice63 (view_run hl (Nat.le_trans hq hl) h0 h1 ?_)
  exact at_idxT hk hT hx (And.intro (by decide) g)
end
end Mine
end

section
set_option autoImplicit false
namespace Mine
open PySem

structure KD (rows : Rows) (r0 r1 : Nat) (P : List Int → Nat → Prop) (es : List (K × V)) : Prop where
  src : ∀ e ∈ es, ∃ w g x, P w g ∧ e = (.t (viewL w g r0 r1), .int x) ∧ ToldAt rows w g x
  all : ∀ w g, P w g → ∃ x, look (.t (viewL w g r0 r1)) es = some (.int x) ∧ ToldAt rows w g x
  nodup : (es.map (·.1)).Nodup
theorem KD.T {rows : Rows} {r0 r1 : Nat} {P : List Int → Nat → Prop} {es : List (K × V)} (h : KD rows r0 r1 P es) : es.all (fun e => e.1.isI == false) = true := by
  rw [List.all_eq_true]
  intro e he
  obtain ⟨w, g, x, _, rfl, _⟩ := h.src e he
  rfl
theorem KD.congr {rows : Rows} {r0 r1 : Nat} {P P' : List Int → Nat → Prop} {es : List (K × V)} (h : KD rows r0 r1 P es) (e : ∀ w g, P w g ↔ P' w g) : KD rows r0 r1 P' es where
  src := fun x hx => by obtain ⟨w, g, y, a, b⟩ := h.src x hx; exact ⟨w, g, y, (e w g).mp a, b⟩
  all := fun w g hp => h.all w g ((e w g).mpr hp)
  nodup := h.nodup
noncomputable def Loc (rows : Rows) (r0 r1 : Nat) (ws : List (List Int)) : Prop := ∀ w ∈ ws, ∀ w' ∈ ws, ∀ g g', g ≤ w.length → g' ≤ w'.length → viewL w g r0 r1 = viewL w' g' r0 r1 → ∀ y, ToldAt rows w g y → ToldAt rows w' g' y
theorem KD.put {rows : Rows} {r0 r1 : Nat} {P : List Int → Nat → Prop} {es : List (K × V)} (h : KD rows r0 r1 P es) {w : List Int} {g : Nat} {x : Int} (ht : ToldAt rows w g x)
    (hl : ∀ w' g', P w' g' → viewL w' g' r0 r1 = viewL w g r0 r1 → ∀ y, ToldAt rows w' g' y ↔ ToldAt rows w g y) :
    (look (.t (viewL w g r0 r1)) es = none ∨ look (.t (viewL w g r0 r1)) es = some (.int x)) ∧ KD rows r0 r1 (fun w' g' => P w' g' ∨ (w' = w ∧ g' = g)) (put (.t (viewL w g r0 r1)) (.int x) es) := by
  refine ⟨?_, ?_, ?_, ?_⟩
  · cases hlk : look (.t (viewL w g r0 r1)) es with
    | none => exact .inl rfl
    | some v =>
      obtain ⟨w', g', x', hp, he, ht'⟩ := h.src _ (look_mem hlk)
      injection he with he1 he2
      injection he1 with he1
      have := (hl w' g' hp he1.symm x').mp ht'
      rw [he2, this.uniq ht]
      exact .inr rfl
  · intro e he
    rcases mem_put he with rfl | he
    · exact ⟨w, g, x, .inr ⟨rfl, rfl⟩, rfl, ht⟩
    · obtain ⟨w', g', x', hp, he, ht'⟩ := h.src e he
      exact ⟨w', g', x', .inl hp, he, ht'⟩
  · rintro w' g' (hp | ⟨rfl, rfl⟩)
    · rw [look_put]
      split
      · rename_i e
        injection e with e
        exact ⟨x, rfl, (hl w' g' hp e.symm x).mpr ht⟩
      · exact h.all w' g' hp
    · rw [look_put, if_pos rfl]
      exact ⟨x, rfl, ht⟩
  · rw [keys_put]
    split
    · exact h.nodup
    · rename_i hn
      rw [List.nodup_append]
      refine ⟨h.nodup, by simp, ?_⟩
      intro a ha b hb
      rw [List.mem_singleton.mp hb]
      rintro rfl
      exact hn ha

noncomputable def knownMid : TSs := (.cons (.assign 48 (.call 21 (.cons (.var 22) (.cons (.var 42) (.cons (.var 44) .nil)))))
  (.cons (.ite (.cmp .ne (.get (.var 46) (.var 48) (.idx (.var 47) (.var 42))) (.idx (.var 47) (.var 42))) (.cons (.ret (.lit .nul))
  .nil) .nil)
  (.cons (.setIdx (.var 46) (.var 48) (.idx (.var 47) (.var 42)))
  .nil)))
noncomputable def KE (m d r0 r1 : Nat) : List (Nat × V) := [(38, .ref (m + 1)), (44, .seq true [.int r0, .int r1]), (46, .ref d)]
noncomputable def KW (m d r0 r1 : Nat) (w nums : List Int) : List (Nat × V) := (22, .seq false (iv w)) :: (47, .seq false (iv nums)) :: KE m d r0 r1
structure KS (σ : St) (rows : Rows) (r0 r1 : Nat) (P : List Int → Nat → Prop) (b : Nat) (σ' : St) : Prop where
  old : ∀ i, i < σ.length → σ'[i]? = σ[i]?
  ex : ∃ es, C3 (σ'[σ.length]? = some (.dict es)) (KD rows r0 r1 P es) (es.length ≤ b)
section
variable {n : Nat} {σ : St}
theorem known_turn {m r0 r1 g b : Nat} {rows : Rows} {P : List Int → Nat → Prop} {w nums : List Int} {ρ : Rho} {σ' : St} {Q : Fl → Rho → St → Prop} (hρ : Has ρ (KW m σ.length r0 r1 w nums)) (hw : w.length ≤ 100) (h0 : r0 ≤ 100) (h1 : r1 ≤ 100)
    (hg : g ≤ w.length) (hn : nums.length = w.length + 1) (ht : ToldAt rows w g (nums.getD g 0)) (hl : ∀ w' g', P w' g' → viewL w' g' r0 r1 = viewL w g r0 r1 → ∀ y, ToldAt rows w' g' y ↔ ToldAt rows w g y) (S : KS σ rows r0 r1 P b σ') (hb : b < 10000)
    (k : ∀ ρ₂ σ₂, Has ρ₂ (KW m σ.length r0 r1 w nums) → KS σ rows r0 r1 (fun w' g' => P w' g' ∨ (w' = w ∧ g' = g)) (b + 1) σ₂ → Q .next ρ₂ σ₂) :
    Exs knownMid (runW prog (n + 1)) (upd ρ 42 (.int g)) σ' Q := by
  obtain ⟨old, es, hes, D, hlen⟩ := S
  obtain ⟨hlk, D'⟩ := D.put ht hl
  have hidx : ∀ {K : V → Prop}, K (.int (nums.getD g 0)) → indexW σ' (.seq false (iv nums)) (.int g) K := fun q => ix_iv (getD_at (by omega)) rfl q
  have e : (look (.t (viewL w g r0 r1)) es).getD (.int (nums.getD g 0)) = .int (nums.getD g 0) := by
    rcases hlk with h | h <;> rw [h] <;> rfl
  refine hρ.go (view_run hw (Nat.le_trans hg hw) h0 h1 (Lk.mk ?_))
  refine at_dict hes D.T (hidx (at_getT hes D.T e (hidx (brNF rfl (Lk.mk (hidx ?_))))))
  refine at_putT hes D.T (Nat.lt_of_le_of_lt hlen (Nat.lt_trans hb (by decide))) ?_
  refine k _ _ rfl ⟨fun i hi => ?_, _, get_set_eq hes, D', Nat.le_trans (length_put _ _ _) (Nat.succ_le_succ hlen)⟩
  rw [List.getElem?_set_ne (Nat.ne_of_gt hi), old i hi]

theorem known_run {m r0 r1 : Nat} {rows : Rows} {exc : List (K × V)} {ws : List (List Int)} {Q : V → St → Prop} (T : Tab m σ rows exc) (hws : ∀ w ∈ ws, (∀ l ∈ w, 0 ≤ l ∧ l ≤ 255) ∧ w.length ≤ 100) (hn : ws.length ≤ 5) (h0 : r0 ≤ 100) (h1 : r1 ≤ 100) (hloc : Loc rows r0 r1 ws)
    (k : ∀ σ', KS σ rows r0 r1 (fun w g => w ∈ ws ∧ g ≤ w.length) 1000 σ' → Q (.ref σ.length) σ') :
    Cl (runW prog (n + 2)) 22 [.ref (m + 1), .seq false (lv ws), .seq true [.int r0, .int r1]] σ Q := by
  have hTl := T.lt
  refine Cl.go d22 rfl rfl (Lk.mk (ov_seq ?_))
  refine Exists.intro (fun i ρ' σ' => Has ρ' (KE m σ.length r0 r1) ∧ KS σ rows r0 r1 (fun w g => w ∈ ws.take i ∧ g ≤ w.length) (101 * i) σ') ⟨⟨rfl, fun i hi => List.getElem?_append_left hi, [], get_last _ _, ⟨nofun, nofun, List.nodup_nil⟩, Nat.le_refl _⟩, ?_, ?_⟩
  · intro i v ρ σ' hv hP
    refine at_map hv fun w hw => ?_
    obtain ⟨hρ, old, es, hes, D, hlen⟩ := hP
    have hwm := List.mem_of_getElem? hw
    have hil := lt_at hw
    obtain ⟨hwl, hw100⟩ := hws w hwm
    have hlt : σ.length < σ'.length := lt_at hes
    have T' : Tab m σ' rows exc := T.keep fun i _ hi => old i (by omega)
    obtain ⟨Ns, links, nums, _, _, c0, _⟩ := T'.ex
    refine hρ.go (at_inst T'.inst c0 (gap_run T' hwl hw100 fun told fs hnl htold => Lk.mk (brNF ?_ (Lk.mk ?_))))
    · rw [iv_len, iv_len, hnl]; rfl
    have et : ((iv told).length : Int) = (w.length + 1 : Nat) := by rw [iv_len, hnl]
    refine And.intro (small_nat _ et (by omega)) (ov_rng0 (w.length + 1) et (by omega) ?_)
    refine Exists.intro (fun g ρ' σ₂ => Has ρ' (KW m σ.length r0 r1 w told) ∧ KS σ rows r0 r1 (fun w' g' => (w' ∈ ws.take i ∧ g' ≤ w'.length) ∨ (w' = w ∧ g' < g)) (101 * i + g) σ₂) ⟨⟨rfl, fun i hi => ?_, es, get_old hes, D.congr fun w' g' => ⟨.inl, fun h => h.resolve_right fun h => Nat.not_lt_zero _ h.2⟩, hlen⟩, ?_, ?_⟩
    · rw [List.getElem?_append_left (Nat.lt_trans hi hlt), old i hi]
    · intro g v ρ' σ₂ hv hP
      refine at_iv hv fun x hx => ?_
      obtain ⟨hg, rfl⟩ := rangeI_at hx
      rw [Int.zero_add]
      have hg' := Nat.le_of_lt_succ hg
      refine known_turn hP.1 hw100 h0 h1 hg' hnl (htold g hg') (fun w' g' hp hview y => ?_) hP.2 (by omega) fun ρ₂ σ₃ hρ₂ S => And.intro trivial ⟨hρ₂, S.old, ?_⟩
      · have a : w' ∈ ws ∧ g' ≤ w'.length := hp.elim (fun h => ⟨List.mem_of_mem_take h.1, h.2⟩) fun h => by rw [h.1]; exact ⟨hwm, Nat.le_trans (Nat.le_of_lt h.2) hg'⟩
        exact ⟨hloc w' a.1 w hwm g' g a.2 hg' hview y, hloc w hwm w' a.1 g g' hg' a.2 hview.symm y⟩
      · obtain ⟨es', hes', D', hlen'⟩ := S.ex
        refine ⟨es', hes', D'.congr fun w' g' => ?_, hlen'⟩
        rw [or_assoc]
        refine or_congr Iff.rfl ?_
        rw [← and_or_left]
        exact and_congr Iff.rfl Nat.lt_succ_iff_lt_or_eq.symm
    · intro ρ' σ₂ hP
      obtain ⟨hρ', old', es', hes', D', hlen'⟩ := hP
      rw [iv_len, length_rangeI] at hlen' D'
      refine And.intro trivial ⟨hρ'.go (G := fun ρ => Has ρ _) rfl, old', es', hes', D'.congr fun w' g' => ?_, by omega⟩
      rw [take_snoc hw, List.mem_append, List.mem_singleton, or_and_right, Nat.lt_succ_iff]
      exact or_congr Iff.rfl (and_congr_right fun h => by rw [h])
  · intro ρ' σ' hP
    obtain ⟨hρ', old, es, hes, D, hlen⟩ := hP
    rw [List.length_map] at hlen D
    rw [List.take_length] at D
    exact hρ'.go (Lk.mk (k σ' ⟨old, es, hes, D, by omega⟩))
end
end Mine
end

section
set_option autoImplicit false
namespace Mine
open PySem

theorem letters_comp {σ : St} {cal : PC} {ρ : Rho} {x : Nat} {cond elt : SE} {xv : V} {fs : Rows} {items : List V} {P : List Int → List Int → V → Prop} {Q' : List V → St → Prop} (h2 : items.length = fs.length) (h3 : ∀ (i : Nat) (f ds : List Int), fs[i]? = some (f, ds) → ∃ dv, items[i]? = some (.seq true [.seq false (iv f), dv]) ∧ P f ds dv)
    (hlen : fs.length ≤ 1000) (hc : ∀ v σ' (G : V → St → Prop), G (.bool true) σ' → cond cal (upd ρ x v) σ' G) (he : ∀ (u dv : V) (G : V → St → Prop), G u σ → elt cal (upd ρ x (.seq true [u, dv])) σ G) (hs : stillP σ σ xv) (q : Q' (lv (fs.map (·.1))) σ) :
    ∃ P : Nat → List V → St → Prop, items.length ≤ LIM ∧ P 0 [] σ ∧
      (∀ i v acc σ', items[i]? = some v → P i acc σ' → cond cal (upd ρ x v) σ' fun c σ'' => boolW c fun b => brW b (elt cal (upd ρ x v) σ'' fun u σ₃ => stillP σ σ₃ xv ∧ P (i + 1) (acc ++ [u]) σ₃) (stillP σ σ'' xv ∧ P (i + 1) acc σ'')) ∧
      ∀ acc σ', P items.length acc σ' → Q' acc σ' := by
  refine comp_all (fun i acc σ' => acc = lv ((fs.take i).map (·.1)) ∧ σ' = σ) (h2 ▸ hlen) ⟨rfl, rfl⟩ hc ?_ ?_
  · rintro i v acc _ hv ⟨rfl, rfl⟩
    refine forms_turn (G := fun v => elt cal (upd ρ x v) _ _) h2 h3 hv fun f ds dv hfd _ => he _ _ _ ⟨hs, ?_, rfl⟩
    rw [take_snoc hfd, List.map_append, lv, lv, List.map_append]; rfl
  · rintro acc _ ⟨rfl, rfl⟩
    rw [h2, List.take_length]; exact q

theorem mem_innerL {f : List Int} {k : Int} : k ∈ innerL f ↔ 0 ≤ k ∧ k ≤ f.length ∧ (0 < k ∨ f.head? ≠ some 0) ∧ (k < f.length ∨ f.getLast? ≠ some 0) := by
  unfold innerL
  rw [List.mem_filter, mem_rangeI, decide_eq_true_eq, and_assoc, Int.zero_add, Int.natCast_succ, Int.lt_add_one_iff]

section
variable {n : Nat} {σ : St} {Q : V → St → Prop}
noncomputable def Reach (fs : Rows) (a b : Int) : Prop := ∀ f ds, (f, ds) ∈ fs → ∀ k ∈ innerL f, 0 < ds.getD k.toNat 0 → k ≤ a ∧ f.length - k ≤ b
noncomputable def In (B : Nat) (a : Int) : Prop := 0 ≤ a ∧ a ≤ B
theorem In.max {B : Nat} {a b : Int} (h : In B a) (g : In B b) : In B (max a b) := ⟨Int.le_trans h.1 (Int.le_max_left _ _), Int.max_le.mpr ⟨h.2, g.2⟩⟩
noncomputable def RE (a b : Int) : List (Nat × V) := [(39, .int a), (40, .int b)]
theorem reach_run {lo fl : Nat} {fs : Rows} {B : Nat} (h : FormsAt lo σ fl fs) (hok : FormsOK fs) (hB : ∀ f ds, (f, ds) ∈ fs → ∀ k ∈ innerL f, k ≤ B ∧ f.length - k ≤ B)
    (q : ∀ r0 r1 : Nat, Reach fs r0 r1 → r0 ≤ B → r1 ≤ B → Q (.seq true [.int r0, .int r1]) σ) :
    Cl (runW prog (n + 2)) 19 [.ref fl] σ Q := by
  obtain ⟨hlo, items, h1, h2, h3⟩ := h
  have z : In B 0 := ⟨Int.le_refl _, Int.natCast_nonneg _⟩
  refine Cl.go d19 rfl rfl (And.intro (ll rfl) (Lk.mk (ov_list h1 ?_)))
  refine Exists.intro (fun i ρ' σ' => ∃ a b : Int, C5 (σ' = σ) (Has ρ' (RE a b)) (In B a) (In B b) (Reach (fs.take i) a b)) ⟨⟨0, 0, rfl, rfl, z, z, nofun⟩, ?_, ?_⟩
  · intro i v ρ σ₁ hv hP
    obtain ⟨a, b, rfl, hρ, ha, hb, hR⟩ := hP
    refine forms_turn (G := fun v => bindW _ v _ _) h2 h3 hv fun f ds dv hfd hd => ?_
    have hm := List.mem_of_getElem? hfd
    obtain ⟨⟨b', w, e, hp⟩, hdl, hdr⟩ := hok.pat f ds hm
    refine hρ.go (gaps_run hp (ov_seq ?_))
    refine Exists.intro (fun j ρ' σ' => ∃ a b : Int, C6 (σ' = σ₁) (Has ρ' ((6, .seq false (iv f)) :: (26, dv) :: RE a b)) (In B a) (In B b) (Reach (fs.take i) a b) (∀ k ∈ (innerL f).take j, 0 < ds.getD k.toNat 0 → k ≤ a ∧ f.length - k ≤ b)) ⟨⟨a, b, rfl, rfl, ha, hb, hR, nofun⟩, ?_, ?_⟩
    · intro j v ρ' σ' hv hP
      refine at_iv hv fun k hkk => ?_
      obtain ⟨a, b, rfl, hρ', ha, hb, hR, hk⟩ := hP
      have hkm := List.mem_of_getElem? hkk
      have hkm' := mem_innerL.mp hkm
      have hkB := hB f ds hm k hkm
      have one : ∀ {a' b' : Int}, a ≤ a' → b ≤ b' → (0 < ds.getD k.toNat 0 → k ≤ a' ∧ f.length - k ≤ b') → ∀ k' ∈ (innerL f).take (j + 1), 0 < ds.getD k'.toNat 0 → k' ≤ a' ∧ f.length - k' ≤ b' := fun la lb h k' hk' hpos => by
        rw [take_snoc hkk] at hk'
        rcases List.mem_append.mp hk' with hk' | hk'
        · have := hk k' hk' hpos; exact ⟨Int.le_trans this.1 la, Int.le_trans this.2 lb⟩
        · rw [List.mem_singleton.mp hk'] at hpos ⊢; exact h hpos
      refine hρ'.go (hd.items.index (iv_at (getD_at (by omega))) (Int.toNat_of_nonneg hkm'.1).symm ?_)
      refine brS (fun _ => ?_) fun hnp => ?_
      · refine And.intro (ll rfl) (And.intro trivial ⟨max a k, max b (((iv f).length : Int) - k), rfl, rfl, ha.max ⟨hkm'.1, hkB.1⟩, hb.max ⟨?_, ?_⟩, fun f' ds' hm k' hk' hpos => ?_, one (Int.le_max_left _ _) (Int.le_max_left _ _) fun _ => ⟨Int.le_max_right _ _, ?_⟩⟩)
        · rw [iv_len]; exact Int.sub_nonneg_of_le hkm'.2.1
        · rw [iv_len]; exact hkB.2
        · have := hR f' ds' hm k' hk' hpos
          exact ⟨Int.le_trans this.1 (Int.le_max_left _ _), Int.le_trans this.2 (Int.le_max_left _ _)⟩
        · rw [iv_len]; exact Int.le_max_right _ _
      · exact And.intro trivial ⟨a, b, rfl, rfl, ha, hb, hR, one (Int.le_refl _) (Int.le_refl _) fun h => (hnp h).elim⟩
    · intro ρ' σ' hP
      obtain ⟨a, b, rfl, hρ', ha, hb, hR, hk⟩ := hP
      rw [iv_len, List.take_length] at hk
      refine And.intro rfl ⟨a, b, rfl, hρ'.go (G := fun ρ => Has ρ _) rfl, ha, hb, fun f' ds' hm => ?_⟩
      rw [take_snoc hfd] at hm
      rcases List.mem_append.mp hm with hm | hm
      · exact hR f' ds' hm
      · cases List.mem_singleton.mp hm; exact hk
  · intro ρ' σ' hP
    obtain ⟨a, b, rfl, hρ, ha, hb, hR⟩ := hP
    rw [h2, List.take_length] at hR
    obtain ⟨a, rfl⟩ := Int.eq_ofNat_of_zero_le ha.1
    obtain ⟨b, rfl⟩ := Int.eq_ofNat_of_zero_le hb.1
    exact hρ.go (Lk.mk (And.intro (ll rfl) (q a b hR (Int.ofNat_le.mp ha.2) (Int.ofNat_le.mp hb.2))))

noncomputable def moreL (fs : Rows) (shape : List Int) (g : Nat) (top : Int) : Rows :=
  fs.map (fun x => (x.1, if x.1 = shape then x.2.take g ++ [top] ++ x.2.drop (g + 1) else x.2)) ++ (if shape ∈ fs.map (·.1) then [] else [(shape, List.replicate g 0 ++ [top] ++ List.replicate (shape.length - g) 0)])
noncomputable def Made (lo : Nat) (σ : St) (L : Rows) (its : List V) : Prop := its.length = L.length ∧ ∀ (j : Nat) (f ds : List Int), L[j]? = some (f, ds) → ∃ dv, its[j]? = some (.seq true [.seq false (iv f), dv]) ∧ DAt lo σ dv ds
theorem Made.snoc {lo : Nat} {σ : St} {L : Rows} {its : List V} {f ds : List Int} {dv : V} (h : Made lo σ L its) (d : DAt lo σ dv ds) : Made lo σ (L ++ [(f, ds)]) (its ++ [.seq true [.seq false (iv f), dv]]) := by
  refine ⟨by rw [List.length_append, List.length_append, h.1]; rfl, fun j f' ds' hj => ?_⟩
  by_cases e : j < L.length
  · rw [List.getElem?_append_left e] at hj
    obtain ⟨dv, a, b⟩ := h.2 j f' ds' hj
    exact ⟨dv, get_old a, b⟩
  · obtain ⟨i, rfl⟩ := Nat.le.dest (Nat.le_of_not_lt e)
    have hi := lt_at hj
    rw [List.length_append] at hi
    obtain rfl : i = 0 := Nat.lt_one_iff.mp (Nat.add_lt_add_iff_left.mp hi)
    rw [get_new (j := 0) rfl] at hj
    cases hj
    refine ⟨dv, ?_, d⟩
    rw [← h.1]; exact get_last _ _
noncomputable def ME (rr fl g : Nat) (shape : List Int) (top : Int) : List (Nat × V) := [(12, .ref rr), (37, .ref fl), (41, .seq false (iv shape)), (42, .int g), (43, .int top)]
theorem more_run {fl lo g : Nat} {fs : Rows} {shape : List Int} {top : Int} (h : FormsAt lo σ fl fs) (hok : FormsOK fs) (hg : g ≤ shape.length) (hs : shape.length ≤ 100) (hlo : lo ≤ σ.length)
    (k : ∀ σ', FormsAt lo σ' σ.length (moreL fs shape g top) → (∀ i, i < σ.length → σ'[i]? = σ[i]?) → Q (.ref σ.length) σ') :
    Cl (runW prog (n + 1)) 20 [.ref fl, .seq false (iv shape), .int g, .int top] σ Q := by
  obtain ⟨habove, items, h1, h2, h3⟩ := h
  have hfl := lt_at h1
  have hfew := hok.few
  refine Cl.go d20 rfl rfl (And.intro (ll rfl) (Lk.mk (ov_list (get_old h1) ?_)))
  have hstep : ∀ (i : Nat) (f ds : List Int), fs[i]? = some (f, ds) → (fs.map (fun x => (x.1, if x.1 = shape then x.2.take g ++ [top] ++ x.2.drop (g + 1) else x.2)))[i]? = some (f, if f = shape then ds.take g ++ [top] ++ ds.drop (g + 1) else ds) := fun i f ds e => by rw [List.getElem?_map, e]; rfl
  have hL : moreL fs shape g top = fs.map (fun x => (x.1, if x.1 = shape then x.2.take g ++ [top] ++ x.2.drop (g + 1) else x.2)) ++ (if shape ∈ fs.map (·.1) then [] else [(shape, List.replicate g 0 ++ [top] ++ List.replicate (shape.length - g) 0)]) := rfl
  have hml : (fs.map (fun x => (x.1, if x.1 = shape then x.2.take g ++ [top] ++ x.2.drop (g + 1) else x.2))).length = fs.length := List.length_map _
  generalize fs.map (fun x => (x.1, if x.1 = shape then x.2.take g ++ [top] ++ x.2.drop (g + 1) else x.2)) = ms at *
  have keep : ∀ (x : MO) {dv : V} {ds : List Int}, DAt lo σ dv ds → DAt lo (σ ++ [x]) dv ds := fun x dv ds h => h.keep fun i _ hi => List.getElem?_append_left hi
  have done : ∀ {its : List V}, Made lo σ (moreL fs shape g top) its → Q (.ref σ.length) (σ ++ [.list its]) := fun {its} h => k _ ⟨hlo, its, get_last _ _, h.1, fun i f ds hi => let ⟨dv, a, b⟩ := h.2 i f ds hi; ⟨dv, a, keep _ b⟩⟩ fun i hi => List.getElem?_append_left hi
  refine Exists.intro (fun i ρ' σ' => ∃ its : List V, C3 (Has ρ' (ME σ.length fl g shape top)) (σ' = σ ++ [.list its]) (Made lo σ (ms.take i) its)) ⟨⟨[], rfl, rfl, rfl, nofun⟩, ?_, ?_⟩
  · intro i v ρ σ' hv hP
    obtain ⟨its, hρ, rfl, hm⟩ := hP
    refine forms_turn (G := fun v => bindW _ v _ _) h2 h3 hv fun f ds dv hfd hd => ?_
    obtain ⟨⟨b', w, e, hp⟩, hdl, hdr⟩ := hok.pat f ds (List.mem_of_getElem? hfd)
    have hsh := hp.short
    have hit := (keep (.list its) hd).items
    have hst := hstep i f ds hfd
    have hil : its.length ≤ 1000 := by rw [hm.1]; exact Nat.le_trans (List.length_take_le' _ _) (by omega)
    have still : ∀ x : List V, (σ ++ [MO.list x])[fl]? = (σ ++ [MO.list []])[fl]? := fun x => by rw [List.getElem?_append_left hfl, List.getElem?_append_left hfl]
    refine hρ.go (at_list (get_last _ _) (eq_iv ?_))
    refine brS (fun hfs => ?_) fun hfs => ?_
    · rw [if_pos hfs] at hst
      refine hit.slice (CutI.ni rfl) (And.intro (ll rfl) (add_iv (ds.take g) [top] rfl rfl ?_ (hit.slice (CutI.in (a := g + 1) rfl) (add_iv _ (ds.drop (g + 1)) rfl rfl ?_ (And.intro (ll rfl) (at_append (get_last _ _) hil ?_))))))
      · rw [List.length_take, List.length_singleton]; omega
      · rw [List.length_append, List.length_take, List.length_drop, List.length_singleton]; omega
      · rw [set_last]
        exact And.intro rfl (And.intro (still _) ⟨_, rfl, rfl, by rw [take_snoc hst]; exact hm.snoc (.inl rfl)⟩)
    · rw [if_neg hfs] at hst
      refine And.intro (ll rfl) (at_append (get_last _ _) hil ?_)
      rw [set_last]
      exact And.intro rfl (And.intro (still _) ⟨_, rfl, rfl, by rw [take_snoc hst]; exact hm.snoc hd⟩)
  · intro ρ' σ' hP
    obtain ⟨its, hρ, rfl, hm⟩ := hP
    rw [h2, ← hml, List.take_length] at hm
    refine hρ.go (Lk.mk (ov_list (get_old h1) ?_))
    refine letters_comp h2 h3 (by omega) (fun _ _ _ g => g) (fun u dv G g => ix_seq (j := 0) rfl rfl g) rfl (in_lv ?_)
    refine brNS (fun hin => ?_) fun hin => ?_
    · rw [if_neg hin] at hL
      refine at_list (get_last _ _) ?_
      refine And.intro (ll rfl) (mul_iv 0 g rfl rfl (by omega) (And.intro (ll rfl) (add_iv _ [top] rfl rfl ?_ (And.intro (ll rfl) (mul_iv 0 (shape.length - g) rfl ?_ (by omega) (add_iv _ _ rfl rfl ?_ (And.intro (ll rfl) (at_append (get_last _ _) ?_ ?_))))))))
      · rw [List.length_replicate, List.length_singleton]; omega
      · rw [iv_len]; omega
      · rw [List.length_append, List.length_replicate, List.length_replicate, List.length_singleton]; omega
      · rw [hm.1]; omega
      · rw [set_last]
        exact And.intro rfl (Lk.mk (done (by rw [hL]; exact hm.snoc (.inl rfl))))
    · rw [if_pos hin, List.append_nil] at hL
      exact Lk.mk (done (by rw [hL]; exact hm))

theorem turned_run {b : Nat} {names word shape : List Int} {place begin : Int} {x : Int} (h : BoxAt σ b) (hn : names.length = 3) (hf : ∀ a, 2 ≤ (names.filter fun x => !decide (x = a)).length) (hw : word.length ≤ 100) (hwn : ∀ l ∈ word, l ∈ names) (hp : 0 ≤ place) (hx : shape[place.toNat]? = some x)
    (hat : x ≠ 0 → 0 ≤ begin + place ∧ begin + place < word.length)
    (k : ∀ (third : List Int) (shift : Nat) σ', word.length + shift ≤ third.length → third.length ≤ word.length + 1 → (∀ l ∈ third, l ∈ names) → Bd b σ σ' → Q (.seq true [.seq false (iv third), .int shift]) σ') :
    Cl (runW prog (n + 3)) 25 [.ref b, .seq false (iv names), .seq false (iv word), .seq false (iv shape), .int place, .int begin] σ Q := by
  refine Cl.go d25 rfl rfl (ix_iv hx (Int.toNat_of_nonneg hp).symm (brS (fun hz => ?_) fun hz => ?_))
  · refine row_run h hn (by decide) (by decide) fun xs σ' hxl hxn hb => Lk.mk ?_
    have hxl : xs.length = 1 := hxl
    refine brS (fun _ => ?_) fun _ => ?_
    · refine add_iv xs word rfl rfl (by omega) (And.intro (ll rfl) (k (xs ++ word) 1 σ' ?_ ?_ (fun l hl => ?_) hb))
      · rw [List.length_append, hxl, Nat.add_comm]; exact Nat.le_refl _
      · rw [List.length_append, hxl, Nat.add_comm]; exact Nat.le_refl _
      · exact (List.mem_append.mp hl).elim (hxn l) (hwn l)
    · refine add_iv word xs rfl rfl (by omega) (And.intro (ll rfl) (k (word ++ xs) 0 σ' ?_ ?_ (fun l hl => ?_) hb))
      · rw [List.length_append]; exact Nat.le_add_right _ _
      · rw [List.length_append, hxl]; exact Nat.le_refl _
      · exact (List.mem_append.mp hl).elim (hwn l) (hxn l)
  · obtain ⟨a0, a1⟩ := hat hz
    obtain ⟨at', hat'⟩ := Int.eq_ofNat_of_zero_le a0
    rw [hat'] at a1
    have ha := Int.ofNat_lt.mp a1
    refine Lk.mk (Lk.mk (ov_seq ?_))
    refine comp_filter (fun x => !decide (x = word[at'])) (by rw [hn]; decide) (fun k _ G g => ix_iv (List.getElem?_eq_getElem ha) hat' g) (fun _ _ g => g) trivial ?_
    refine take_run h (by decide) (by decide) fun d σ' d0 d2 hb => ?_
    have hfl := hf word[at']
    have hd : d.toNat < (names.filter fun x => !decide (x = word[at'])).length := by omega
    have hmem : ((names.filter fun x => !decide (x = word[at']))[d.toNat]) ∈ names := (List.mem_filter.mp (List.getElem_mem hd)).1
    refine ix_iv (List.getElem?_eq_getElem hd) (Int.toNat_of_nonneg d0).symm (Lk.mk ?_)
    generalize ((names.filter fun x => !decide (x = word[at']))[d.toNat]) = x at *
    have e1 : (word.take at').length = at' := by rw [List.length_take]; omega
    have e2 : (word.take at' ++ [x]).length = at' + 1 := by rw [List.length_append, e1]; rfl
    have e3 : (word.take at' ++ [x] ++ word.drop (at' + 1)).length = word.length := by rw [List.length_append, e2, List.length_drop]; omega
    refine sl_seq (CutI.ni hat') (And.intro (ll rfl) (add_iv _ [x] rfl rfl ?_ (sl_seq (CutI.in (a := at' + 1) ?_) (add_iv _ _ rfl rfl ?_ (And.intro (ll rfl) (k _ 0 σ' ?_ ?_ (fun l hl => ?_) hb))))))
    · rw [e1]; exact Nat.le_trans (Nat.succ_le_of_lt ha) (Nat.le_trans hw (by decide))
    · rw [hat']; rfl
    · rw [← List.length_append, e3]; exact Nat.le_trans hw (by decide)
    · rw [e3]; exact Nat.le_refl _
    · rw [e3]; exact Nat.le_succ _
    · rcases List.mem_append.mp hl with hl | hl
      · rcases List.mem_append.mp hl with hl | hl
        · exact hwn l (List.mem_of_mem_take hl)
        · rw [List.mem_singleton.mp hl]; exact hmem
      · exact hwn l (List.mem_of_mem_drop hl)
end
end Mine
end

section
set_option autoImplicit false
namespace Mine
open PySem

theorem Bd.app {b : Nat} {σ L σ' : St} (h : Bd b (σ ++ L) σ') (hb : b < σ.length) : ∃ σ₁, Bd b σ σ₁ ∧ σ' = σ₁ ++ L := by
  obtain ⟨x, y, rfl⟩ := h
  exact ⟨_, ⟨x, y, rfl⟩, List.set_append_left _ _ hb⟩
theorem BoxAt.old {b : Nat} {σ : St} (h : BoxAt σ b) (L : St) : BoxAt (σ ++ L) b := let ⟨x, y, e⟩ := h; ⟨x, y, get_old e⟩
theorem draw_comp {cal : PC} {ρ : Rho} {σ : St} {x b : Nat} {cond elt : SE} {xv : V} {items : List V} {Q' : St → Prop} (R : V → Prop) (hs : ∀ σ', stillP (σ ++ [.list []]) σ' xv) (hi : items.length ≤ 1000) (hb : BoxAt σ b)
    (hc : ∀ v σ' (G : V → St → Prop), G (.bool true) σ' → cond cal (upd ρ x v) σ' G)
    (turn : ∀ v σ' (G : V → St → Prop), v ∈ items → BoxAt σ' b → (∀ u σ'', R u → Bd b σ' σ'' → G u σ'') → elt cal (upd ρ x v) σ' G)
    (fin : ∀ σ₁ xs, Bd b σ σ₁ → xs.length = items.length → (∀ u ∈ xs, R u) → Q' (σ₁ ++ [.list xs])) :
    ∃ P : Nat → St → Prop, P 0 (σ ++ [.list []]) ∧
      (∀ i v σ', items[i]? = some v → P i σ' → cond cal (upd ρ x v) σ' fun c σ'' => boolW c fun b => brW b (elt cal (upd ρ x v) σ'' fun u σ₃ => stillP (σ ++ [.list []]) σ₃ xv ∧ appendW σ₃ (.ref σ.length) u fun σ₄ => stillP (σ ++ [.list []]) σ₄ xv ∧ P (i + 1) σ₄) (stillP (σ ++ [.list []]) σ'' xv ∧ P (i + 1) σ'')) ∧
      ∀ σ', P items.length σ' → Q' σ' := by
  refine ⟨fun i σ' => ∃ σ₁ xs, C4 (Bd b σ σ₁) (σ' = σ₁ ++ [.list xs]) (xs.length = i) (∀ u ∈ xs, R u), ⟨σ, [], .refl hb, rfl, rfl, nofun⟩, ?_, ?_⟩
  · intro i v σ' hv hP
    obtain ⟨σ₁, xs, hB, rfl, hl, hR⟩ := hP
    refine hc _ _ _ (turn v _ _ (List.mem_of_getElem? hv) ((hB.box hb).old _) fun u σ'' hu hB' => ⟨hs _, ?_⟩)
    obtain ⟨σ₂, hB2, rfl⟩ := hB'.app (hB.len.symm ▸ hb.lt)
    have e : σ.length = σ₂.length := (hB.trans hB2).len.symm
    have hxl : xs.length ≤ 1000 := hl ▸ Nat.le_trans (Nat.le_of_lt (lt_at hv)) hi
    rw [e]
    refine at_append (get_last _ _) hxl ?_
    rw [set_last]
    refine ⟨hs _, σ₂, _, hB.trans hB2, rfl, by rw [List.length_append, hl]; rfl, fun y hy => ?_⟩
    exact (List.mem_append.mp hy).elim (hR y) fun hy => List.mem_singleton.mp hy ▸ hu
  · intro σ' hP
    obtain ⟨σ₁, xs, hB, rfl, hl, hR⟩ := hP
    exact fin σ₁ xs hB hl hR
theorem ints_draw {xs : List V} {R : Int → Prop} (h : ∀ u ∈ xs, ∃ d, u = .int d ∧ R d) : ∃ ds : List Int, xs = iv ds ∧ ∀ d ∈ ds, R d := by
  induction xs with
  | nil => exact ⟨[], rfl, nofun⟩
  | cons u r ih =>
    obtain ⟨d, rfl, hd⟩ := h u List.mem_cons_self
    obtain ⟨ds, rfl, hds⟩ := ih fun v hv => h v (List.mem_cons_of_mem _ hv)
    exact ⟨d :: ds, rfl, fun x hx => (List.mem_cons.mp hx).elim (fun e => e ▸ hd) (hds x)⟩

noncomputable def FR (σ : St) (fl : Nat) (fs : Rows) : Prop := ∃ items : List V, C4 (σ[fl]? = some (.list items)) (items.length = fs.length)
  (∀ (i : Nat) (f ds : List Int), fs[i]? = some (f, ds) → ∃ r, items[i]? = some (.seq true [.seq false (iv f), .ref r]) ∧ fl < r ∧ σ[r]? = some (.list (iv ds)))
  (∀ (i j : Nat) (x y : V) (r : Nat), items[i]? = some (.seq true [x, .ref r]) → items[j]? = some (.seq true [y, .ref r]) → i = j)
structure NF (names : List Int) (fs : Rows) : Prop where
  pat : ∀ f ds, (f, ds) ∈ fs → (∃ b w e, Pat f b w e ∧ (∀ l ∈ w, l ∈ names) ∧ w.length ≤ 3) ∧ ds.length = f.length + 1 ∧ ∀ d ∈ ds, 0 ≤ d ∧ d ≤ 7
  apart : ∀ (i j : Nat) (f ds ds' : List Int), fs[i]? = some (f, ds) → fs[j]? = some (f, ds') → i = j
theorem FR.keep {σ σ' : St} {fl : Nat} {fs : Rows} (h : FR σ fl fs) (k : ∀ i, fl ≤ i → i < σ.length → σ'[i]? = σ[i]?) : FR σ' fl fs := by
  obtain ⟨items, h1, h2, h3, h4⟩ := h
  exact ⟨items, (k fl (Nat.le_refl _) (lt_at h1)).trans h1, h2, fun i f ds hi => let ⟨r, a, b, c⟩ := h3 i f ds hi; ⟨r, a, b, (k r (Nat.le_of_lt b) (lt_at c)).trans c⟩, h4⟩
theorem snoc_at {α : Type} {xs : List α} {x y : α} {i : Nat} (h : (xs ++ [x])[i]? = some y) : xs[i]? = some y ∨ (i = xs.length ∧ y = x) := by
  by_cases e : i < xs.length
  · rw [List.getElem?_append_left e] at h; exact .inl h
  · obtain ⟨j, rfl⟩ := Nat.le.dest (Nat.le_of_not_lt e)
    have hj := lt_at h
    rw [List.length_append] at hj
    obtain rfl : j = 0 := Nat.lt_one_iff.mp (Nat.add_lt_add_iff_left.mp hj)
    rw [get_new (j := 0) rfl] at h
    cases h
    exact .inr ⟨rfl, rfl⟩
theorem FR.add {σ : St} {fl : Nat} {fs : Rows} {items : List V} {f ds : List Int} (h1 : σ[fl]? = some (.list items)) (h2 : items.length = fs.length)
    (h3 : ∀ (i : Nat) (f ds : List Int), fs[i]? = some (f, ds) → ∃ r, items[i]? = some (.seq true [.seq false (iv f), .ref r]) ∧ fl < r ∧ σ[r]? = some (.list (iv ds)))
    (h4 : ∀ (i j : Nat) (x y : V) (r : Nat), items[i]? = some (.seq true [x, .ref r]) → items[j]? = some (.seq true [y, .ref r]) → i = j) :
    FR ((σ ++ [MO.list (iv ds)]).set fl (.list (items ++ [V.seq true [.seq false (iv f), .ref σ.length]]))) fl (fs ++ [(f, ds)]) := by
  have hfl := lt_at h1
  refine ⟨_, get_set_eq (get_old h1), by rw [List.length_append, List.length_append, h2]; rfl, fun i f' ds' hi => ?_, fun i j x y r hi hj => ?_⟩
  · rcases snoc_at hi with hi | ⟨ei, hi'⟩
    · obtain ⟨r, a, c, d⟩ := h3 i f' ds' hi
      exact ⟨r, get_old a, c, get_set_ne (get_old d) (Nat.ne_of_lt c)⟩
    · cases hi'
      subst ei
      exact ⟨σ.length, by rw [← h2]; exact get_last _ _, hfl, get_set_ne (get_last _ _) (Nat.ne_of_lt hfl)⟩
  · have old : ∀ (i : Nat) (x : V), items[i]? = some (.seq true [x, .ref σ.length]) → False := fun i x h => by
      obtain ⟨r, a, _, d⟩ := h3 i _ _ (List.getElem?_eq_getElem (h2 ▸ lt_at h))
      rw [h] at a
      injection a with a
      injection a with _ a
      injection a with _ a
      injection a with a
      injection a with a
      rw [← a] at d
      exact Nat.lt_irrefl _ (lt_at d)
    rcases snoc_at hi with hi | ⟨ei, hi'⟩ <;> rcases snoc_at hj with hj | ⟨ej, hj'⟩
    · exact h4 i j x y r hi hj
    · cases hj'; exact (old i x hi).elim
    · cases hi'; exact (old j y hj).elim
    · exact ei.trans ej.symm
theorem NF.add {names : List Int} {fs : Rows} {f ds b w e : List Int} (N : NF names fs) (hP : Pat f b w e) (hw : ∀ l ∈ w, l ∈ names) (hw3 : w.length ≤ 3) (hl : ds.length = f.length + 1) (hd : ∀ d ∈ ds, 0 ≤ d ∧ d ≤ 7) (hn : f ∉ fs.map (·.1)) : NF names (fs ++ [(f, ds)]) where
  pat f' ds' hm := by
    rcases List.mem_append.mp hm with hm | hm
    · exact N.pat f' ds' hm
    · cases List.mem_singleton.mp hm
      exact ⟨⟨b, w, e, hP, hw, hw3⟩, hl, hd⟩
  apart i j f' ds1 ds2 hi hj := by
    have no : ∀ {i : Nat} {ds' : List Int}, fs[i]? = some (f, ds') → False := fun h => hn (List.mem_map.mpr ⟨_, List.mem_of_getElem? h, rfl⟩)
    rcases snoc_at hi with hi | ⟨ei, hi'⟩ <;> rcases snoc_at hj with hj | ⟨ej, hj'⟩
    · exact N.apart i j f' ds1 ds2 hi hj
    · cases hj'; exact (no hi).elim
    · cases hi'; exact (no hj).elim
    · exact ei.trans ej.symm

section
variable {n : Nat} {σ : St} {Q : V → St → Prop}
theorem box_run {c s : Int} (k : ∀ x y : Int, Q (.ref σ.length) (σ ++ [.list [.int x, .int y]])) : Cl (runW prog (n + 1)) 13 [.int c, .int s] σ Q := by
  refine Cl.go d13 rfl rfl (And.intro rfl (And.intro (by decide) (And.intro (ll rfl) ?_)))
  exact k _ _
theorem in2 {d a b : Int} {Q : Bool → Prop} (q : Q (decide (d ∈ [a, b]))) : inI d [.int a, .int b] Q := in_iv (y := [a, b]) q
theorem edge_iv {c : Prop} [Decidable c] {Q : V → Prop} (q : ∀ e : List Int, e = [] ∨ e = [0] → Q (.seq false (iv e))) : mulL [.int 0] (if decide c = true then 1 else 0) Q := by
  by_cases h : c
  · rw [decide_eq_true h]; exact mul_iv 0 1 rfl rfl (by decide) (q [0] (.inr rfl))
  · rw [decide_eq_false h]; exact mul_iv 0 0 rfl rfl (by decide) (q [] (.inl rfl))
theorem seven {d : Int} {Q : V → Prop} (d0 : 0 ≤ d) (d7 : d < 7) (q : ∀ y, 0 ≤ y → y ≤ 7 → Q (.int y)) : indexW σ (.seq false [.int 0, .int 1, .int 2, .int 0, .int 3, .int 0, .int 7]) (.int d) Q := by
  obtain ⟨i, rfl⟩ := Int.eq_ofNat_of_zero_le d0
  have hi : i < [(0 : Int), 1, 2, 0, 3, 0, 7].length := Int.ofNat_lt.mp d7
  have := (by decide : ∀ x ∈ [(0 : Int), 1, 2, 0, 3, 0, 7], 0 ≤ x ∧ x ≤ 7) _ (List.getElem_mem hi)
  exact ix_iv (List.getElem?_eq_getElem hi) rfl (q _ this.1 this.2)

noncomputable def FE (fl b : Nat) (names : List Int) (longest : Int) : List (Nat × V) := [(12, .ref fl), (29, .ref b), (31, .seq false (iv names)), (33, .int longest)]
noncomputable def FI (σ : St) (b : Nat) (names : List Int) (i : Nat) (σ' : St) : Prop := ∃ fs, C6 (FR σ' σ.length fs) (NF names fs) (0 < i → fs ≠ []) (fs.length ≤ i) (BoxAt σ' b) (∀ i, i < σ.length → i ≠ b → σ'[i]? = σ[i]?)
theorem forms_run {b : Nat} {names : List Int} {most longest : Int} (h : BoxAt σ b) (hn : names.length = 3) (hnm : ∀ l ∈ names, 1 ≤ l ∧ l ≤ 255) (hm : 0 < most) (hm' : most ≤ 10) (hl : 0 < longest) (hl' : longest ≤ 3)
    (k : ∀ fs σ', FR σ' σ.length fs → NF names fs → fs ≠ [] → fs.length ≤ 10 → BoxAt σ' b → (∀ i, i < σ.length → i ≠ b → σ'[i]? = σ[i]?) → Q (.ref σ.length) σ') :
    Cl (runW prog (n + 3)) 17 [.ref b, .seq false (iv names), .int most, .int longest] σ Q := by
  have hbl := h.lt
  refine Cl.go d17 rfl rfl (And.intro (ll rfl) (Lk.mk ?_))
  refine take_run (h.old _) hm (Int.lt_of_le_of_lt hm' (by decide)) fun m σ₁ m0 m1 B1 => ?_
  obtain ⟨mn, rfl⟩ := Int.eq_ofNat_of_zero_le m0
  obtain ⟨s0, B0, rfl⟩ := B1.app hbl
  have hm10 : mn + 1 ≤ 10 := Int.ofNat_le.mp (Int.le_trans m1 hm')
  have e1 : 1 + (mn : Int) = (mn + 1 : Nat) := Int.add_comm _ _
  refine And.intro (small_nat _ e1 (Nat.lt_of_le_of_lt hm10 (by decide))) (ov_rng0 (mn + 1) e1 (Nat.lt_of_le_of_lt hm10 (by decide)) ?_)
  refine Exists.intro (fun i ρ' σ' => Has ρ' (FE σ.length b names longest) ∧ FI σ b names i σ') ⟨⟨rfl, [], ⟨[], ?_, rfl, nofun, nofun⟩, ⟨nofun, nofun⟩, fun h => absurd h (by decide), Nat.le_refl _, (B0.box h).old _, fun i hi hib => ?_⟩, ?_, ?_⟩
  · have := get_last s0 (MO.list [])
    rwa [B0.len] at this
  · rw [List.getElem?_append_left (B0.len.symm ▸ hi), B0.at hib]
  · clear B1 B0
    intro i v ρ σ' hv hP
    obtain ⟨hρ, fs, F, N, hne, hfl, hB, hk⟩ := hP
    have hi10 : i < 10 := by
      have := lt_at hv
      rw [iv_len, length_rangeI] at this
      exact Nat.lt_of_lt_of_le this hm10
    refine hρ.go (take_run hB hl (Int.lt_of_le_of_lt hl' (by decide)) fun d1 s1 d10 d11 B1 => ?_)
    refine row_run (B1.box hB) hn (by omega) (by omega) fun w s2 hwl hwn B2 => ?_
    refine take_run ((B1.trans B2).box hB) (by decide) (by decide) fun d2 s3 d20 d21 B3 => And.intro (ll rfl) (Lk.mk ?_)
    have B := (B1.trans B2).trans B3
    have hw1 : w.length ≠ 0 := by rw [hwl]; omega
    have hw3 : w.length ≤ 3 := by rw [hwl]; omega
    clear B1 B2 B3
    refine And.intro (ll rfl) (And.intro (ll rfl) (in2 (edge_iv fun bb hbb => ?_)))
    have lb : ∀ {e : List Int}, e = [] ∨ e = [0] → e.length ≤ 1 := fun h => h.elim (fun h => h ▸ Nat.zero_le _) fun h => h ▸ Nat.le_refl _
    have hbb1 := lb hbb
    refine add_iv bb w rfl rfl (by omega) (And.intro (ll rfl) (And.intro (ll rfl) (in2 (edge_iv fun ee hee => ?_))))
    have hee1 := lb hee
    have hlen : (bb ++ w ++ ee).length ≤ 5 := by rw [List.length_append, List.length_append]; omega
    refine add_iv (bb ++ w) ee rfl rfl (by rw [← List.length_append]; omega) (Lk.mk ?_)
    have hPat : Pat (bb ++ w ++ ee) bb w ee := ⟨rfl, hbb, hee, fun e => hw1 (e ▸ rfl), fun l hl => hnm l (hwn l hl), Nat.le_trans hlen (by decide)⟩
    generalize bb ++ w ++ ee = f at *
    have ef : ((iv f).length : Int) + 1 = (f.length + 1 : Nat) := by rw [iv_len]; rfl
    refine And.intro (small_nat _ ef (by omega)) (ov_rng0 _ ef (by omega) ?_)
    refine draw_comp (fun u => ∃ d, u = .int d ∧ 0 ≤ d ∧ d ≤ 7) (fun _ => trivial) (by rw [iv_len, length_rangeI]; omega) (B.box hB) (fun _ _ _ g => g) (fun v σ₄ G _ hB4 g => ?_) fun s4 xs B4 hxl hxR => ?_
    · refine And.intro (ll rfl) (take_run hB4 (by decide) (by decide) fun d σ₅ d0 d7 B5 => seven d0 d7 fun y y0 y7 => g _ _ ⟨y, rfl, y0, y7⟩ B5)
    obtain ⟨ds, rfl, hds⟩ := ints_draw hxR
    rw [iv_len, iv_len, length_rangeI] at hxl
    have e4 : s4.length = s3.length := B4.len
    have B := B.trans B4
    clear B4
    have F := F.keep (σ' := s4) fun i hi _ => B.at (Nat.ne_of_gt (Nat.lt_of_lt_of_le hbl hi))
    have hk := fun i (hi : i < σ.length) (hib : i ≠ b) => (B.at hib).trans (hk i hi hib)
    have hB := B.box hB
    clear B
    obtain ⟨items, i1, i2, i3, i4⟩ := F
    have hfl' := lt_at i1
    refine Lk.mk (ov_list (get_old i1) ?_)
    refine letters_comp (P := fun _ _ _ => True) i2 (fun i f ds hi => let ⟨r, a, _⟩ := i3 i f ds hi; ⟨_, a, trivial⟩) (by omega) (fun _ _ _ g => g) (fun u dv G g => ix_seq (j := 0) rfl rfl g) rfl (in_lv ?_)
    have hk' : ∀ (x : MO) i, i < σ.length → i ≠ b → (s4 ++ [x])[i]? = σ[i]? := fun x i hi hib => by rw [List.getElem?_append_left (Nat.lt_trans hi hfl')]; exact hk i hi hib
    refine brNS (fun hin => ?_) fun hin => ?_
    · refine at_list (get_old i1) (And.intro (ll rfl) (at_append (get_old i1) (by omega) ?_))
      rw [← e4]
      refine And.intro rfl (And.intro trivial ⟨rfl, _, FR.add i1 i2 i3 i4, N.add hPat hwn hw3 hxl hds hin, fun _ e => ?_, ?_, ?_, fun i hi hib => ?_⟩)
      · exact List.append_ne_nil_of_right_ne_nil _ (List.cons_ne_nil _ _) e
      · rw [List.length_append]; exact Nat.add_le_add_right hfl 1
      · obtain ⟨p, q, e⟩ := hB
        exact ⟨p, q, get_set_ne (get_old e) (Nat.ne_of_gt hbl)⟩
      · rw [List.getElem?_set_ne (Nat.ne_of_gt hi)]; exact hk' _ i hi hib
    · refine And.intro trivial ⟨rfl, fs, ⟨items, get_old i1, i2, fun i f ds hi => let ⟨r, a, b, c⟩ := i3 i f ds hi; ⟨r, a, b, get_old c⟩, i4⟩, N, fun _ e => ?_, Nat.le_succ_of_le hfl, hB.old _, hk' _⟩
      rw [e] at hin; cases hin
  · intro ρ' σ' hP
    obtain ⟨hρ, fs, F, N, hne, hfl, hB, hk⟩ := hP
    rw [iv_len, length_rangeI] at hne hfl
    exact hρ.go (Lk.mk (k fs σ' F N (hne (Nat.succ_pos _)) (Nat.le_trans hfl hm10) hB hk))
end
end Mine
end

section
set_option autoImplicit false
namespace Mine
open PySem

theorem Best.congr_pos {P P' : Int → Prop} {v : Int} (h : Best P v) (e : ∀ x, 0 < x → (P x ↔ P' x)) : Best P' v := by
  obtain ⟨h0, h1, h2⟩ := h
  refine ⟨h0, fun x hx => ?_, ?_⟩
  · by_cases hp : 0 < x
    · exact h1 x ((e x hp).mpr hx)
    · omega
  · by_cases hv : v = 0
    · exact .inl hv
    · exact .inr ((e v (by omega)).mp (h2.resolve_left hv))

theorem rowOf_get {f ds : List Int} {k : Nat} (hl : ds.length = f.length + 1) (hk : k ≤ f.length) (hf : f ≠ []) : (rowOf f ds)[k]? = if (k : Int) ∈ innerL f then ds[k]? else some 0 := by
  have hfl := List.length_pos_iff.mpr hf
  have hm : (k : Int) ∈ innerL f ↔ (0 < k ∨ f.head? ≠ some 0) ∧ (k < f.length ∨ f.getLast? ≠ some 0) := by
    rw [mem_innerL]
    constructor
    · rintro ⟨_, _, a, b⟩; exact ⟨a.imp (by omega) id, b.imp (by omega) id⟩
    · rintro ⟨a, b⟩; exact ⟨by omega, by omega, a.imp (by omega) id, b.imp (by omega) id⟩
  unfold rowOf
  simp only
  by_cases h1 : f.head? = some 0 <;> by_cases h2 : f.getLast? = some 0
  · rw [if_pos h2, if_pos h1]
    simp only [hm, h1, h2, ne_eq, not_true_eq_false, or_false, List.length_set]
    by_cases e : k = ds.length - 1
    · rw [e, List.getElem?_set_self (by simp; omega), if_neg (by omega)]
    · rw [List.getElem?_set_ne (by omega)]
      by_cases e0 : k = 0
      · rw [e0, List.getElem?_set_self (by omega), if_neg (by omega)]
      · rw [List.getElem?_set_ne (by omega), if_pos (by omega)]
  · rw [if_neg h2, if_pos h1]
    simp only [hm, h1, h2, ne_eq, not_true_eq_false, or_false, not_false_eq_true, or_true, and_true]
    by_cases e0 : k = 0
    · rw [e0, List.getElem?_set_self (by omega), if_neg (by omega)]
    · rw [List.getElem?_set_ne (by omega), if_pos (by omega)]
  · rw [if_pos h2, if_neg h1]
    simp only [hm, h1, h2, ne_eq, not_true_eq_false, or_false, not_false_eq_true, or_true, true_and]
    by_cases e : k = ds.length - 1
    · rw [e, List.getElem?_set_self (by omega), if_neg (by omega)]
    · rw [List.getElem?_set_ne (by omega), if_pos (by omega)]
  · rw [if_neg h2, if_neg h1]
    simp only [hm, h1, h2, ne_eq, not_false_eq_true, or_true, and_true, if_true]

noncomputable def SayF (fs : Rows) (L R : List Int) (x : Int) : Prop := ∃ (f ds : List Int) (k : Nat), (f, ds) ∈ fs ∧ (k : Int) ∈ innerL f ∧ f.take k <:+ L ∧ f.drop k <+: R ∧ ds[k]? = some x
structure Plain (fs : Rows) : Prop where
  len : ∀ f ds, (f, ds) ∈ fs → ds.length = f.length + 1 ∧ f ≠ []
theorem Say_iff {fs : Rows} (h : Plain fs) {L R : List Int} {x : Int} (hx : 0 < x) : Say (rowsOf fs) L R x ↔ SayF fs L R x := by
  constructor
  · rintro ⟨f, row, k, hm, hk, h1, h2, h3⟩
    obtain ⟨⟨f', ds⟩, hm', e⟩ := List.mem_map.mp hm
    injection e with e1 e2
    simp only at e1 e2
    subst e1 e2
    obtain ⟨hl, hf⟩ := h.len _ _ hm'
    rw [rowOf_get hl hk hf] at h3
    split at h3
    · rename_i hi; exact ⟨f', ds, k, hm', hi, h1, h2, h3⟩
    · injection h3 with h3; omega
  · rintro ⟨f, ds, k, hm, hi, h1, h2, h3⟩
    obtain ⟨hl, hf⟩ := h.len _ _ hm
    have hk := (mem_innerL.mp hi).2.1
    refine ⟨f, rowOf f ds, k, List.mem_map.mpr ⟨_, hm, rfl⟩, by omega, h1, h2, ?_⟩
    rw [rowOf_get hl (by omega) hf, if_pos hi]; exact h3

noncomputable def lastN (r : Nat) (L : List Int) : List Int := L.drop (L.length - r)
theorem suffix_lastN {a L : List Int} {r : Nat} (h : a.length ≤ r) : a <:+ lastN r L ↔ a <:+ L := by
  constructor
  · exact fun ha => ha.trans (List.drop_suffix _ _)
  · intro ha
    exact List.suffix_of_suffix_length_le ha (List.drop_suffix _ _) (by have := ha.length_le; unfold lastN; rw [List.length_drop]; omega)
theorem prefix_take_iff {a L : List Int} {r : Nat} (h : a.length ≤ r) : a <+: L.take r ↔ a <+: L := by
  constructor
  · exact fun ha => ha.trans (List.take_prefix _ _)
  · intro ha
    exact List.prefix_of_prefix_length_le ha (List.take_prefix _ _) (by have := ha.length_le; rw [List.length_take]; omega)

noncomputable abbrev LL (w : List Int) (g : Nat) : List Int := (0 :: w ++ [0]).take (g + 1)
noncomputable abbrev RR (w : List Int) (g : Nat) : List Int := (0 :: w ++ [0]).drop (g + 1)
theorem viewL_eq {w : List Int} {g r0 r1 : Nat} (hg : g ≤ w.length) : viewL w g r0 r1 = lastN r0 (LL w g) ++ [-1] ++ (RR w g).take r1 := by
  have e : (LL w g).length = g + 1 := by unfold LL; rw [List.length_take]; simp; omega
  unfold viewL lastN
  rw [e]

theorem mark_inj {a b a' b' : List Int} (h : a ++ [-1] ++ b = a' ++ [-1] ++ b') (ha : ∀ x ∈ a, 0 ≤ x) (ha' : ∀ x ∈ a', 0 ≤ x) : a = a' ∧ b = b' := by
  induction a generalizing a' with
  | nil =>
    cases a' with
    | nil => simpa using h
    | cons x r =>
      simp only [List.nil_append, List.cons_append, List.cons.injEq] at h
      have := ha' x List.mem_cons_self
      omega
  | cons y s ih =>
    cases a' with
    | nil =>
      simp only [List.nil_append, List.cons_append, List.cons.injEq] at h
      have := ha y List.mem_cons_self
      omega
    | cons x r =>
      simp only [List.cons_append, List.cons.injEq] at h
      obtain ⟨e, h⟩ := h
      have := ih (a' := r) (by simpa using h) (fun z hz => ha z (List.mem_cons_of_mem _ hz)) (fun z hz => ha' z (List.mem_cons_of_mem _ hz))
      exact ⟨by rw [e, this.1], this.2⟩
theorem marks_nonneg {w : List Int} (hw : ∀ l ∈ w, 1 ≤ l ∧ l ≤ 255) : ∀ x ∈ (0 :: w ++ [0]), 0 ≤ x := by
  intro x hx
  simp only [List.cons_append, List.mem_cons, List.mem_append, List.not_mem_nil, or_false] at hx
  rcases hx with rfl | h | rfl
  · omega
  · have := hw x h; omega
  · omega
theorem lastN_nonneg {w : List Int} {g r : Nat} (hw : ∀ l ∈ w, 1 ≤ l ∧ l ≤ 255) : ∀ x ∈ lastN r (LL w g), 0 ≤ x := fun x hx =>
  marks_nonneg hw x (List.mem_of_mem_take (List.mem_of_mem_drop hx))

theorem local_law {fs : Rows} {r0 r1 : Nat} {ws : List (List Int)} (hp : Plain fs) (hR : Reach fs r0 r1) (hws : ∀ w ∈ ws, ∀ l ∈ w, 1 ≤ l ∧ l ≤ 255) : Loc (rowsOf fs) r0 r1 ws := by
  intro w hw w' hw' g g' hg hg' hv y ht
  rw [viewL_eq hg, viewL_eq hg'] at hv
  obtain ⟨e1, e2⟩ := mark_inj hv (lastN_nonneg (hws w hw)) (lastN_nonneg (hws w' hw'))
  refine Best.congr_pos ht fun x hx => ?_
  rw [Say_iff hp hx, Say_iff hp hx]
  have key : ∀ (L R : List Int), SayF fs L R x ↔ SayF fs (lastN r0 L) (R.take r1) x := fun L R => by
    have one : ∀ f ds (k : Nat), (f, ds) ∈ fs → (k : Int) ∈ innerL f → ds[k]? = some x → ((f.take k <:+ L ∧ f.drop k <+: R) ↔ (f.take k <:+ lastN r0 L ∧ f.drop k <+: R.take r1)) := fun f ds k hm hi hk => by
      have hr := hR f ds hm k hi (by rw [Int.toNat_natCast, List.getD_eq_getElem?_getD, hk]; exact hx)
      have hkl := (mem_innerL.mp hi).2.1
      rw [suffix_lastN (by rw [List.length_take]; omega), prefix_take_iff (by rw [List.length_drop]; omega)]
    constructor
    · rintro ⟨f, ds, k, hm, hi, h1, h2, h3⟩
      have := (one f ds k hm hi h3).mp ⟨h1, h2⟩
      exact ⟨f, ds, k, hm, hi, this.1, this.2, h3⟩
    · rintro ⟨f, ds, k, hm, hi, h1, h2, h3⟩
      have := (one f ds k hm hi h3).mpr ⟨h1, h2⟩
      exact ⟨f, ds, k, hm, hi, this.1, this.2, h3⟩
  rw [key (LL w g) (RR w g), key (LL w' g') (RR w' g'), e1, e2]

structure Seen (SL SR : List Int) (r0 r1 : Nat) : Prop where
  l : SL.length ≤ r0
  r : SR.length ≤ r1
  le : SL.length = r0 ∨ SL.head? = some 0
  re : SR.length = r1 ∨ SR.getLast? = some 0
  nn : ∀ x ∈ SL, 0 ≤ x
theorem LL_eq {w : List Int} {g : Nat} (hg : g ≤ w.length) : LL w g = 0 :: w.take g := by
  unfold LL; simp only [List.cons_append, List.take_succ_cons]; rw [List.take_append_of_le_length hg]
theorem RR_eq {w : List Int} {g : Nat} (hg : g ≤ w.length) : RR w g = w.drop g ++ [0] := by
  unfold RR; simp only [List.cons_append, List.drop_succ_cons]; rw [List.drop_append_of_le_length hg]
theorem seen_left {SL : List Int} {w : List Int} {g r0 : Nat} (hw : ∀ l ∈ w, 1 ≤ l ∧ l ≤ 255) (hg : g ≤ w.length) (hl : SL.length ≤ r0) (he : SL.length = r0 ∨ SL.head? = some 0) : SL <:+ LL w g ↔ lastN r0 (LL w g) = SL := by
  constructor
  · rintro ⟨A, e⟩
    rcases he with he | he
    · unfold lastN
      rw [← e, List.length_append, he, Nat.add_sub_cancel, List.drop_left]
    · have hA : A = [] := by
        cases A with
        | nil => rfl
        | cons a A =>
          exfalso
          rw [LL_eq hg] at e
          simp only [List.cons_append, List.cons.injEq] at e
          cases SL with
          | nil => cases he
          | cons s SL =>
            simp only [List.head?_cons, Option.some.injEq] at he
            have : s ∈ w.take g := by rw [← e.2]; simp
            have := hw s (List.mem_of_mem_take this)
            omega
      subst hA
      simp only [List.nil_append] at e
      unfold lastN
      rw [← e, show SL.length - r0 = 0 by omega, List.drop_zero]
  · intro e
    rw [← e]; exact List.drop_suffix _ _
theorem seen_right {SR : List Int} {w : List Int} {g r1 : Nat} (hw : ∀ l ∈ w, 1 ≤ l ∧ l ≤ 255) (hg : g ≤ w.length) (hl : SR.length ≤ r1) (he : SR.length = r1 ∨ SR.getLast? = some 0) : SR <+: RR w g ↔ (RR w g).take r1 = SR := by
  constructor
  · rintro ⟨B, e⟩
    rcases he with he | he
    · rw [← e, ← he, List.take_left]
    · have hB : B = [] := by
        refine snoc_rec (P := fun B => SR ++ B = RR w g → B = []) (fun _ => rfl) (fun B b _ e => ?_) B e
        exfalso
        rw [RR_eq hg, ← List.append_assoc] at e
        obtain ⟨e1, _⟩ := List.append_inj' e rfl
        have hne : SR ≠ [] := by intro q; rw [q] at he; cases he
        have hl := List.getLast?_eq_some_getLast hne
        rw [hl] at he
        injection he with he
        have : SR.getLast hne ∈ w.drop g := by rw [← e1]; exact List.mem_append.mpr (.inl (List.getLast_mem hne))
        have := hw _ (List.mem_of_mem_drop this)
        omega
      subst hB
      rw [List.append_nil] at e
      rw [← e, List.take_of_length_le hl]
  · intro e
    rw [← e]; exact List.take_prefix _ _

theorem inner_nat {f : List Int} {k : Nat} (h : (k : Int) ∈ innerL f) : k ≤ f.length := by have := (mem_innerL.mp h).2.1; omega
theorem moreL_mem {fs : Rows} {shape : List Int} {g : Nat} {top : Int} {f ds : List Int} : (f, ds) ∈ moreL fs shape g top ↔ (f ≠ shape ∧ (f, ds) ∈ fs) ∨ (f = shape ∧ ∃ ds', (f, ds') ∈ fs ∧ ds = ds'.take g ++ [top] ++ ds'.drop (g + 1)) ∨ (f = shape ∧ shape ∉ fs.map (·.1) ∧ ds = List.replicate g 0 ++ [top] ++ List.replicate (shape.length - g) 0) := by
  unfold moreL
  rw [List.mem_append]
  constructor
  · rintro (h | h)
    · obtain ⟨⟨f', ds'⟩, hm, e⟩ := List.mem_map.mp h
      simp only [Prod.mk.injEq] at e
      obtain ⟨e1, e2⟩ := e
      subst e1
      by_cases hs : f' = shape
      · rw [if_pos hs] at e2; exact .inr (.inl ⟨hs, ds', hm, e2.symm⟩)
      · rw [if_neg hs] at e2; subst e2; exact .inl ⟨hs, hm⟩
    · split at h
      · cases h
      · rename_i hn
        have := List.mem_singleton.mp h
        simp only [Prod.mk.injEq] at this
        exact .inr (.inr ⟨this.1, hn, this.2⟩)
  · rintro (⟨hs, hm⟩ | ⟨rfl, ds', hm, rfl⟩ | ⟨rfl, hn, rfl⟩)
    · exact .inl (List.mem_map.mpr ⟨(f, ds), hm, by simp [hs]⟩)
    · exact .inl (List.mem_map.mpr ⟨(f, ds'), hm, by simp⟩)
    · rw [if_neg hn]; exact .inr (List.mem_singleton.mpr rfl)
theorem mid_get {A B : List Int} {top : Int} {k : Nat} : (A ++ [top] ++ B)[k]? = if k < A.length then A[k]? else if k = A.length then some top else B[k - A.length - 1]? := by
  split
  · rename_i h; rw [List.append_assoc, List.getElem?_append_left h]
  · rename_i h
    split
    · rename_i e; subst e; rw [List.append_assoc, List.getElem?_append_right (by omega)]; simp
    · rename_i e
      rw [List.getElem?_append_right (by simp; omega)]
      congr 1
      simp; omega

theorem more_law {fs : Rows} {SL SR : List Int} {r0 r1 g₀ : Nat} {top : Int} (hp : Plain fs) (hp' : Plain (moreL fs (SL ++ SR) g₀ top)) (hsm : ∀ f ds, (f, ds) ∈ fs → ∀ d ∈ ds, d ≤ 7) (hap : ∀ f ds ds', (f, ds) ∈ fs → (f, ds') ∈ fs → ds = ds') (hg₀ : g₀ = SL.length) (hin : (g₀ : Int) ∈ innerL (SL ++ SR)) (htop : 7 < top)
    (S : Seen SL SR r0 r1) {w : List Int} {g : Nat} (hw : ∀ l ∈ w, 1 ≤ l ∧ l ≤ 255) (hg : g ≤ w.length) {x : Int} (ht : ToldAt (rowsOf fs) w g x) :
    ToldAt (rowsOf (moreL fs (SL ++ SR) g₀ top)) w g (if viewL w g r0 r1 = SL ++ [-1] ++ SR then top else x) := by
  have hseen : viewL w g r0 r1 = SL ++ [-1] ++ SR ↔ (SL <:+ LL w g ∧ SR <+: RR w g) := by
    rw [seen_left hw hg S.l S.le, seen_right hw hg S.r S.re, viewL_eq hg]
    constructor
    · intro e
      exact mark_inj e (lastN_nonneg hw) S.nn
    · rintro ⟨a, b⟩; rw [a, b]
  have hg₀l : g₀ ≤ (SL ++ SR).length := by simp; omega
  have htk : (SL ++ SR).take g₀ = SL := by rw [hg₀]; simp
  have hdr : (SL ++ SR).drop g₀ = SR := by rw [hg₀]; simp
  have get_ne : ∀ (ds : List Int) (k : Nat), ds.length = (SL ++ SR).length + 1 → k ≠ g₀ → (ds.take g₀ ++ [top] ++ ds.drop (g₀ + 1))[k]? = ds[k]? := fun ds k hl hk => by
    have e : (ds.take g₀).length = g₀ := by rw [List.length_take]; omega
    rw [mid_get, e]
    split
    · rename_i h; rw [List.getElem?_take, if_pos h]
    · rw [List.getElem?_drop]; congr 1; omega
  have get_eq : ∀ (ds : List Int), ds.length = (SL ++ SR).length + 1 → (ds.take g₀ ++ [top] ++ ds.drop (g₀ + 1))[g₀]? = some top := fun ds hl => by
    have e : (ds.take g₀).length = g₀ := by rw [List.length_take]; omega
    rw [mid_get, e, if_neg (by omega), if_pos rfl]
  by_cases m : SL <:+ LL w g ∧ SR <+: RR w g
  · rw [if_pos (hseen.mpr m)]
    refine ⟨by omega, fun y hy => ?_, .inr ?_⟩
    · by_cases hy0 : 0 < y
      · obtain ⟨f, ds, k, hm, hi, h1, h2, h3⟩ := (Say_iff hp' hy0).mp hy
        have hmem := List.mem_of_getElem? h3
        rcases moreL_mem.mp hm with ⟨_, hm'⟩ | ⟨rfl, ds', hm', rfl⟩ | ⟨rfl, _, rfl⟩
        · have := hsm f ds hm' y hmem; omega
        · simp only [List.mem_append, List.mem_singleton] at hmem
          rcases hmem with (hmem | rfl) | hmem
          · have := hsm _ _ hm' y (List.mem_of_mem_take hmem); omega
          · omega
          · have := hsm _ _ hm' y (List.mem_of_mem_drop hmem); omega
        · simp only [List.mem_append, List.mem_singleton, List.mem_replicate] at hmem
          omega
      · omega
    · rw [Say_iff hp' (by omega)]
      by_cases hs : SL ++ SR ∈ fs.map (·.1)
      · obtain ⟨⟨f, ds⟩, hm, e⟩ := List.mem_map.mp hs
        simp only at e
        subst e
        refine ⟨_, _, g₀, moreL_mem.mpr (.inr (.inl ⟨rfl, ds, hm, rfl⟩)), hin, ?_, ?_, get_eq ds (hp.len _ _ hm).1⟩
        · rw [htk]; exact m.1
        · rw [hdr]; exact m.2
      · refine ⟨_, _, g₀, moreL_mem.mpr (.inr (.inr ⟨rfl, hs, rfl⟩)), hin, ?_, ?_, ?_⟩
        · rw [htk]; exact m.1
        · rw [hdr]; exact m.2
        · rw [mid_get, List.length_replicate, if_neg (by omega), if_pos rfl]
  · rw [if_neg (fun e => m (hseen.mp e))]
    refine Best.congr_pos ht fun y hy => ?_
    rw [Say_iff hp hy, Say_iff hp' hy]
    constructor
    · rintro ⟨f, ds, k, hm, hi, h1, h2, h3⟩
      by_cases hs : f = SL ++ SR
      · subst hs
        have hk : k ≠ g₀ := by rintro rfl; rw [htk] at h1; rw [hdr] at h2; exact m ⟨h1, h2⟩
        exact ⟨_, _, k, moreL_mem.mpr (.inr (.inl ⟨rfl, ds, hm, rfl⟩)), hi, h1, h2, by rw [get_ne ds k (hp.len _ _ hm).1 hk]; exact h3⟩
      · exact ⟨f, ds, k, moreL_mem.mpr (.inl ⟨hs, hm⟩), hi, h1, h2, h3⟩
    · rintro ⟨f, ds, k, hm, hi, h1, h2, h3⟩
      rcases moreL_mem.mp hm with ⟨_, hm'⟩ | ⟨rfl, ds', hm', rfl⟩ | ⟨rfl, _, rfl⟩
      · exact ⟨f, ds, k, hm', hi, h1, h2, h3⟩
      · have hk : k ≠ g₀ := by rintro rfl; rw [htk] at h1; rw [hdr] at h2; exact m ⟨h1, h2⟩
        rw [get_ne ds' k (hp.len _ _ hm').1 hk] at h3
        exact ⟨_, ds', k, hm', hi, h1, h2, h3⟩
      · have hk : k ≠ g₀ := by rintro rfl; rw [htk] at h1; rw [hdr] at h2; exact m ⟨h1, h2⟩
        rw [mid_get, List.length_replicate, if_neg hk] at h3
        split at h3
        · have := List.mem_replicate.mp (List.mem_of_getElem? h3); omega
        · have := List.mem_replicate.mp (List.mem_of_getElem? h3); omega
end Mine
end

section
set_option autoImplicit false
namespace Mine
open PySem

inductive Tr where
  | nil
  | leaf (n : Nat)
  | node (l r : Tr)

noncomputable def stepN (acc h : Nat) : Nat :=
  (fun a : Nat => Nat.mod (Nat.mul (Nat.add (Nat.mod (Nat.mul a 2147483648) 18446744073709551616) (Nat.div a 8589934592)) 11400714785074694791) 18446744073709551616) (Nat.mod (Nat.add acc (Nat.mul h 14029467366897019727)) 18446744073709551616)
noncomputable def finN (acc len : Nat) : Nat := Nat.mod (Nat.add acc (Nat.xor len (Nat.xor 2870177450012600261 3527539))) 18446744073709551616

noncomputable def two (f : Nat) : Nat → Nat → Option Tr :=
  Nat.rec (fun _ _ => none) (fun _ ih m n => Bool.rec
    (Bool.rec
      (Bool.rec (some (.node (.leaf (Nat.div n 2)) (.leaf (Nat.div m 2)))) (Option.rec none (fun t => some (.node .nil t)) (ih (Nat.div m 2) (Nat.div n 2))) (Nat.beq (Nat.mod n 2) 1))
      (Bool.rec (Option.rec none (fun t => some (.node t .nil)) (ih (Nat.div m 2) (Nat.div n 2))) (some (.node (.leaf (Nat.div m 2)) (.leaf (Nat.div n 2)))) (Nat.beq (Nat.mod n 2) 1))
      (Nat.beq (Nat.mod m 2) 0)) none (Nat.beq m n)) f
noncomputable def Tr.ins (t : Tr) : Nat → Option Tr :=
  Tr.rec (fun n => some (.leaf n)) (fun m n => two 70 m n)
    (fun l r il ir n => Bool.rec (Option.rec none (fun t => some (.node l t)) (ir (Nat.div n 2))) (Option.rec none (fun t => some (.node t r)) (il (Nat.div n 2))) (Nat.beq (Nat.mod n 2) 0)) t

noncomputable def goR (a b c : Nat) (k : Nat) : Nat → Nat → Tr → Option Tr :=
  Nat.rec (fun acc len t => t.ins (finN acc len))
    (fun k ih acc len t => Option.rec none (fun t => Option.rec none (fun t => Option.rec none (fun t => Option.rec none (fun t => ih (stepN acc c) (Nat.succ len) t)
      (ih (stepN acc b) (Nat.succ len) t)) (ih (stepN acc a) (Nat.succ len) t)) (t.ins (finN (stepN acc 0) (Nat.succ len)))) (t.ins (finN acc len))) k
noncomputable def goL (a b c : Nat) (k : Nat) : Nat → Nat → Tr → Option Tr :=
  Nat.rec (fun acc len t => goR a b c 4 (stepN acc 18446744073709551614) (Nat.succ len) t)
    (fun k ih acc len t => Option.rec none (fun t => Option.rec none (fun t => Option.rec none (fun t => ih (stepN acc c) (Nat.succ len) t)
      (ih (stepN acc b) (Nat.succ len) t)) (ih (stepN acc a) (Nat.succ len) t)) (goR a b c 4 (stepN acc 18446744073709551614) (Nat.succ len) t)) k
noncomputable def goV (a b c k : Nat) : Option Tr := Option.rec none (fun t => goL a b c (k - 1) (stepN 2870177450012600261 0) 1 t) (goL a b c k 2870177450012600261 0 (.leaf 18446744073709551615))
noncomputable def okV (a b c k : Nat) : Bool := Option.rec false (fun _ => true) (goV a b c k)

noncomputable def Tr.has : Tr → Nat → Prop
  | .nil, _ => False
  | .leaf m, n => n = m
  | .node l r, n => if n % 2 = 0 then l.has (n / 2) else r.has (n / 2)

theorem half {x m : Nat} (h : x % 2 = m % 2) : x / 2 = m / 2 ↔ x = m := ⟨fun e => by rw [← Nat.div_add_mod x 2, ← Nat.div_add_mod m 2, e, h], fun e => by rw [e]⟩
theorem par {x m n r : Nat} (h : x = m ∨ x = n) (hm : m % 2 = r) (hn : n % 2 = r) : x % 2 = r := by rcases h with rfl | rfl <;> assumption
theorem mix {x m n : Nat} (hm : m % 2 = 0) (hn : n % 2 = 1) : (if x % 2 = 0 then x / 2 = m / 2 else x / 2 = n / 2) ↔ (x = m ∨ x = n) := by
  by_cases hx : x % 2 = 0
  · rw [if_pos hx, half (hx.trans hm.symm)]; exact ⟨.inl, fun h => h.resolve_right fun e => by rw [e, hn] at hx; cases hx⟩
  · rw [if_neg hx, half ((Nat.mod_two_ne_zero.mp hx).trans hn.symm)]; exact ⟨.inr, fun h => h.resolve_left fun e => hx (e ▸ hm)⟩
theorem two_spec : ∀ (f m n : Nat) {t : Tr}, two f m n = some t → m ≠ n ∧ ∀ x, t.has x ↔ (x = m ∨ x = n)
  | 0, m, n, t, h => by cases h
  | f + 1, m, n, t, h => by
    have e : two (f + 1) m n = Bool.rec
      (Bool.rec
        (Bool.rec (some (.node (.leaf (Nat.div n 2)) (.leaf (Nat.div m 2)))) (Option.rec none (fun t => some (.node .nil t)) (two f (Nat.div m 2) (Nat.div n 2))) (Nat.beq (Nat.mod n 2) 1))
        (Bool.rec (Option.rec none (fun t => some (.node t .nil)) (two f (Nat.div m 2) (Nat.div n 2))) (some (.node (.leaf (Nat.div m 2)) (.leaf (Nat.div n 2)))) (Nat.beq (Nat.mod n 2) 1))
        (Nat.beq (Nat.mod m 2) 0)) none (Nat.beq m n) := rfl
    rw [e] at h
    have ih : ∀ {t : Tr}, two f (Nat.div m 2) (Nat.div n 2) = some t → _ := fun {t} h => two_spec f (Nat.div m 2) (Nat.div n 2) h
    have hm : m % 2 = 0 ∨ m % 2 = 1 := Nat.mod_two_eq_zero_or_one m
    have hn : n % 2 = 0 ∨ n % 2 = 1 := Nat.mod_two_eq_zero_or_one n
    have dm : Nat.div m 2 = m / 2 := rfl
    have dn : Nat.div n 2 = n / 2 := rfl
    cases hb : Nat.beq m n with
    | true => rw [hb] at h; cases h
    | false =>
      rw [hb] at h
      have hne : m ≠ n := by rintro rfl; rw [Nat.beq_refl] at hb; cases hb
      refine ⟨hne, ?_⟩
      have mm : Nat.mod m 2 = m % 2 := rfl
      have mn : Nat.mod n 2 = n % 2 := rfl
      rcases hm with hm | hm <;> rcases hn with hn | hn
      · rw [mm, mn, hm, hn] at h
        have h : (Option.rec none (fun t => some (.node t .nil)) (two f (Nat.div m 2) (Nat.div n 2)) : Option Tr) = some t := h
        cases hr : two f (Nat.div m 2) (Nat.div n 2) with
        | none => rw [hr] at h; cases h
        | some u =>
          rw [hr] at h; cases h
          obtain ⟨_, k⟩ := ih hr
          intro x
          simp only [Tr.has]
          by_cases hx : x % 2 = 0
          · rw [if_pos hx, k, dm, dn, half (hx.trans hm.symm), half (hx.trans hn.symm)]
          · rw [if_neg hx]; exact ⟨False.elim, fun h => hx (par h hm hn)⟩
      · rw [mm, mn, hm, hn] at h
        have h : (some (.node (.leaf (Nat.div m 2)) (.leaf (Nat.div n 2))) : Option Tr) = some t := h
        cases h
        intro x
        simp only [Tr.has, dm, dn]
        exact mix hm hn
      · rw [mm, mn, hm, hn] at h
        have h : (some (.node (.leaf (Nat.div n 2)) (.leaf (Nat.div m 2))) : Option Tr) = some t := h
        cases h
        intro x
        simp only [Tr.has, dm, dn]
        exact (mix hn hm).trans Or.comm
      · rw [mm, mn, hm, hn] at h
        have h : (Option.rec none (fun t => some (.node .nil t)) (two f (Nat.div m 2) (Nat.div n 2)) : Option Tr) = some t := h
        cases hr : two f (Nat.div m 2) (Nat.div n 2) with
        | none => rw [hr] at h; cases h
        | some u =>
          rw [hr] at h; cases h
          obtain ⟨_, k⟩ := ih hr
          intro x
          simp only [Tr.has]
          by_cases hx : x % 2 = 0
          · rw [if_pos hx]; exact ⟨False.elim, fun h => by rw [par h hm hn] at hx; cases hx⟩
          · rw [if_neg hx, k, dm, dn, half ((Nat.mod_two_ne_zero.mp hx).trans hm.symm), half ((Nat.mod_two_ne_zero.mp hx).trans hn.symm)]

theorem ins_spec : ∀ (t : Tr) (n : Nat) {t' : Tr}, t.ins n = some t' → ¬ t.has n ∧ ∀ x, t'.has x ↔ (t.has x ∨ x = n)
  | .nil, n, t', h => by
    have h : some (Tr.leaf n) = some t' := h
    cases h
    exact ⟨fun h => h, fun x => by simp [Tr.has]⟩
  | .leaf m, n, t', h => by
    have h : two 70 m n = some t' := h
    obtain ⟨a, b⟩ := two_spec 70 m n h
    exact ⟨fun e => a e.symm, b⟩
  | .node l r, n, t', h => by
    have h : (Bool.rec (Option.rec none (fun t => some (.node l t)) (r.ins (Nat.div n 2))) (Option.rec none (fun t => some (.node t r)) (l.ins (Nat.div n 2))) (Nat.beq (Nat.mod n 2) 0) : Option Tr) = some t' := h
    have hn : n % 2 = 0 ∨ n % 2 = 1 := Nat.mod_two_eq_zero_or_one n
    have mn : Nat.mod n 2 = n % 2 := rfl
    have dn : Nat.div n 2 = n / 2 := rfl
    rcases hn with hn | hn
    · rw [mn, hn] at h
      have h : (Option.rec none (fun t => some (.node t r)) (l.ins (Nat.div n 2)) : Option Tr) = some t' := h
      cases hr : l.ins (Nat.div n 2) with
      | none => rw [hr] at h; cases h
      | some u =>
        rw [hr] at h; cases h
        obtain ⟨a, b⟩ := ins_spec l (Nat.div n 2) hr
        refine ⟨by simp only [Tr.has, hn, if_true]; exact a, fun x => ?_⟩
        simp only [Tr.has]
        by_cases hx : x % 2 = 0
        · rw [if_pos hx, if_pos hx, b, dn, half (hx.trans hn.symm)]
        · rw [if_neg hx, if_neg hx]; exact ⟨.inl, fun h => h.resolve_right fun e => hx (e ▸ hn)⟩
    · rw [mn, hn] at h
      have h : (Option.rec none (fun t => some (.node l t)) (r.ins (Nat.div n 2)) : Option Tr) = some t' := h
      cases hr : r.ins (Nat.div n 2) with
      | none => rw [hr] at h; cases h
      | some u =>
        rw [hr] at h; cases h
        obtain ⟨a, b⟩ := ins_spec r (Nat.div n 2) hr
        refine ⟨by simp only [Tr.has, hn]; exact a, fun x => ?_⟩
        simp only [Tr.has]
        by_cases hx : x % 2 = 0
        · rw [if_pos hx, if_pos hx]; exact ⟨.inl, fun h => h.resolve_right fun e => by rw [e, hn] at hx; cases hx⟩
        · rw [if_neg hx, if_neg hx, b, dn, half ((Nat.mod_two_ne_zero.mp hx).trans hn.symm)]

structure Adds {α : Type} (key : α → Nat) (S : α → Prop) (t t' : Tr) : Prop where
  new : ∀ x, S x → ¬ t.has (key x)
  apart : ∀ x y, S x → S y → key x = key y → x = y
  all : ∀ n, t'.has n ↔ (t.has n ∨ ∃ x, S x ∧ n = key x)

theorem Adds.one {α : Type} {key : α → Nat} {x : α} {t t' : Tr} (h : t.ins (key x) = some t') : Adds key (· = x) t t' := by
  obtain ⟨a, b⟩ := ins_spec t _ h
  exact ⟨fun y e => e ▸ a, fun y z e f _ => e.trans f.symm, fun n => by rw [b]; simp⟩
theorem Adds.then {α : Type} {key : α → Nat} {S R : α → Prop} {t t' t'' : Tr} (h : Adds key S t t') (g : Adds key R t' t'') : Adds key (fun x => S x ∨ R x) t t'' where
  new := fun x hx hh => by
    rcases hx with hx | hx
    · exact h.new x hx hh
    · exact g.new x hx ((h.all _).mpr (.inl hh))
  apart := fun x y hx hy e => by
    rcases hx with hx | hx <;> rcases hy with hy | hy
    · exact h.apart x y hx hy e
    · exact (g.new y hy ((h.all _).mpr (.inr ⟨x, hx, e.symm⟩))).elim
    · exact (g.new x hx ((h.all _).mpr (.inr ⟨y, hy, e⟩))).elim
    · exact g.apart x y hx hy e
  all := fun n => by
    rw [g.all, h.all]
    constructor
    · rintro ((h | ⟨x, a, b⟩) | ⟨x, a, b⟩)
      · exact .inl h
      · exact .inr ⟨x, .inl a, b⟩
      · exact .inr ⟨x, .inr a, b⟩
    · rintro (h | ⟨x, a | a, b⟩)
      · exact .inl (.inl h)
      · exact .inl (.inr ⟨x, a, b⟩)
      · exact .inr ⟨x, a, b⟩
theorem Adds.congr {α β : Type} {key : α → Nat} {key' : β → Nat} {S : α → Prop} {R : β → Prop} {t t' : Tr} (h : Adds key S t t') (f : α → β) (hk : ∀ x, S x → key' (f x) = key x) (hR : ∀ y, R y → ∃ x, S x ∧ y = f x) (hS : ∀ x, S x → R (f x)) : Adds key' R t t' where
  new := fun y hy => by obtain ⟨x, hx, rfl⟩ := hR y hy; rw [hk x hx]; exact h.new x hx
  apart := fun y z hy hz e => by
    obtain ⟨x, hx, rfl⟩ := hR y hy
    obtain ⟨x', hx', rfl⟩ := hR z hz
    rw [hk x hx, hk x' hx'] at e
    rw [h.apart x x' hx hx' e]
  all := fun n => by
    rw [h.all]
    constructor
    · rintro (h | ⟨x, a, b⟩)
      · exact .inl h
      · exact .inr ⟨f x, hS x a, by rw [hk x a]; exact b⟩
    · rintro (h | ⟨y, a, b⟩)
      · exact .inl h
      · obtain ⟨x, hx, rfl⟩ := hR y a; exact .inr ⟨x, hx, by rw [← hk x hx]; exact b⟩
end Mine
end

section
set_option autoImplicit false
namespace Mine
open PySem

noncomputable def keyN (acc len : Nat) (R : List Nat) : Nat := finN (R.foldl stepN acc) (len + R.length)
theorem keyN_cons (acc len x : Nat) (R : List Nat) : keyN acc len (x :: R) = keyN (stepN acc x) (Nat.succ len) R := by
  simp only [keyN, List.foldl_cons, List.length_cons]
  rw [show len + (R.length + 1) = Nat.succ len + R.length from by omega]

inductive RS (a b c : Nat) : Nat → List Nat → Prop
  | nil (k : Nat) : RS a b c k []
  | edge (k : Nat) : RS a b c (k + 1) [0]
  | cons {k x : Nat} {r : List Nat} : (x = a ∨ x = b ∨ x = c) → RS a b c k r → RS a b c (k + 1) (x :: r)
inductive LS (a b c : Nat) : Nat → List Nat → Prop
  | nil (k : Nat) : LS a b c k []
  | cons {k x : Nat} {r : List Nat} : (x = a ∨ x = b ∨ x = c) → LS a b c k r → LS a b c (k + 1) (x :: r)

theorem rec_bind {α β : Type} (o : Option α) (f : α → Option β) : (Option.rec none f o : Option β) = o.bind f := by cases o <;> rfl

theorem goR_zero (a b c acc len : Nat) (t : Tr) : goR a b c 0 acc len t = t.ins (finN acc len) := rfl
theorem goR_succ0 (a b c k acc len : Nat) : goR a b c (k + 1) acc len = (fun t => Option.rec none (fun t => Option.rec none (fun t => Option.rec none (fun t => Option.rec none (fun t => goR a b c k (stepN acc c) (Nat.succ len) t)
      (goR a b c k (stepN acc b) (Nat.succ len) t)) (goR a b c k (stepN acc a) (Nat.succ len) t)) (t.ins (finN (stepN acc 0) (Nat.succ len)))) (t.ins (finN acc len))) := rfl
theorem goR_succ (a b c k acc len : Nat) (t : Tr) : goR a b c (k + 1) acc len t = (t.ins (finN acc len)).bind fun t => (t.ins (finN (stepN acc 0) (Nat.succ len))).bind fun t => (goR a b c k (stepN acc a) (Nat.succ len) t).bind fun t =>
    (goR a b c k (stepN acc b) (Nat.succ len) t).bind fun t => goR a b c k (stepN acc c) (Nat.succ len) t := by
  rw [goR_succ0]
  simp only [rec_bind]
theorem keyN_nil (acc len : Nat) : keyN acc len [] = finN acc len := by
  simp only [keyN, List.foldl_nil, List.length_nil, Nat.add_zero]
theorem keyN_edge (acc len : Nat) : keyN acc len [0] = finN (stepN acc 0) (Nat.succ len) := by
  rw [keyN_cons, keyN_nil]

theorem goR_spec' {a b c : Nat} (G : Nat → Nat → Nat → Tr → Option Tr) (h0 : ∀ acc len t, G 0 acc len t = t.ins (keyN acc len []))
    (hs : ∀ k acc len t, G (k + 1) acc len t = (t.ins (keyN acc len [])).bind fun t => (t.ins (keyN acc len [0])).bind fun t => (G k (stepN acc a) (Nat.succ len) t).bind fun t => (G k (stepN acc b) (Nat.succ len) t).bind fun t => G k (stepN acc c) (Nat.succ len) t) :
    ∀ (k acc len : Nat) (t t' : Tr), G k acc len t = some t' → Adds (keyN acc len) (RS a b c k) t t' := by
  intro k
  induction k with
  | zero =>
    intro acc len t t' h
    rw [h0] at h
    exact (Adds.one (key := keyN acc len) (x := []) h).congr id (fun _ _ => rfl) (fun y hy => ⟨[], rfl, by cases hy; rfl⟩) (fun x hx => by subst hx; exact .nil 0)
  | succ k ih =>
    intro acc len t t' h
    rw [hs] at h
    obtain ⟨t1, h1, h⟩ := Option.bind_eq_some_iff.mp h
    obtain ⟨t2, h2, h⟩ := Option.bind_eq_some_iff.mp h
    obtain ⟨t3, h3, h⟩ := Option.bind_eq_some_iff.mp h
    obtain ⟨t4, h4, h⟩ := Option.bind_eq_some_iff.mp h
    have A1 : Adds (keyN acc len) (· = []) t t1 := Adds.one (key := keyN acc len) (x := []) h1
    have A2 : Adds (keyN acc len) (· = [0]) t1 t2 := Adds.one (key := keyN acc len) (x := [0]) h2
    have lift : ∀ (x : Nat) (s s' : Tr), Adds (keyN (stepN acc x) (Nat.succ len)) (RS a b c k) s s' → Adds (keyN acc len) (fun R => ∃ r, RS a b c k r ∧ R = x :: r) s s' := fun x s s' A =>
      A.congr (x :: ·) (fun r _ => keyN_cons acc len x r) (fun R hR => hR) (fun r hr => ⟨r, hr, rfl⟩)
    have A3 := lift a _ _ (ih _ _ _ _ h3)
    have A4 := lift b _ _ (ih _ _ _ _ h4)
    have A5 := lift c _ _ (ih _ _ _ _ h)
    refine ((((A1.then A2).then A3).then A4).then A5).congr id (fun _ _ => rfl) (fun y hy => ⟨y, ?_, rfl⟩) (fun x hx => ?_)
    · cases hy with
      | nil => exact .inl (.inl (.inl (.inl rfl)))
      | edge => exact .inl (.inl (.inl (.inr rfl)))
      | cons hx hr =>
        rcases hx with rfl | rfl | rfl
        · exact .inl (.inl (.inr ⟨_, hr, rfl⟩))
        · exact .inl (.inr ⟨_, hr, rfl⟩)
        · exact .inr ⟨_, hr, rfl⟩
    · rcases hx with (((rfl | rfl) | ⟨r, hr, rfl⟩) | ⟨r, hr, rfl⟩) | ⟨r, hr, rfl⟩
      · exact .nil _
      · exact .edge _
      · exact .cons (.inl rfl) hr
      · exact .cons (.inr (.inl rfl)) hr
      · exact .cons (.inr (.inr rfl)) hr
theorem goR_spec (a b c k acc len : Nat) {t t' : Tr} (h : goR a b c k acc len t = some t') : Adds (keyN acc len) (RS a b c k) t t' :=
  goR_spec' (a := a) (b := b) (c := c) (goR a b c) (fun acc len t => by rw [keyN_nil]; exact goR_zero a b c acc len t) (fun k acc len t => by rw [keyN_nil, keyN_edge]; exact goR_succ a b c k acc len t) k acc len t t' h

noncomputable abbrev MARK : Nat := 18446744073709551614
noncomputable def keyP (acc len : Nat) (p : List Nat × List Nat) : Nat := keyN acc len (p.1 ++ MARK :: p.2)

theorem goL_zero0 (a b c acc len : Nat) : goL a b c 0 acc len = (fun t => goR a b c 4 (stepN acc 18446744073709551614) (Nat.succ len) t) := rfl
theorem goL_zero (a b c acc len : Nat) (t : Tr) : goL a b c 0 acc len t = goR a b c 4 (stepN acc MARK) (Nat.succ len) t := by
  rw [goL_zero0]
theorem goL_succ0 (a b c k acc len : Nat) : goL a b c (k + 1) acc len = (fun t => Option.rec none (fun t => Option.rec none (fun t => Option.rec none (fun t => goL a b c k (stepN acc c) (Nat.succ len) t)
      (goL a b c k (stepN acc b) (Nat.succ len) t)) (goL a b c k (stepN acc a) (Nat.succ len) t)) (goR a b c 4 (stepN acc 18446744073709551614) (Nat.succ len) t)) := rfl
theorem goL_succ (a b c k acc len : Nat) (t : Tr) : goL a b c (k + 1) acc len t = (goR a b c 4 (stepN acc MARK) (Nat.succ len) t).bind fun t => (goL a b c k (stepN acc a) (Nat.succ len) t).bind fun t => (goL a b c k (stepN acc b) (Nat.succ len) t).bind fun t => goL a b c k (stepN acc c) (Nat.succ len) t := by
  rw [goL_succ0]
  simp only [rec_bind]
theorem goL_spec' {a b c : Nat} (RR : List Nat → Prop) (GR : Nat → Nat → Tr → Option Tr) (G : Nat → Nat → Nat → Tr → Option Tr) (hR : ∀ acc len t t', GR acc len t = some t' → Adds (keyN acc len) RR t t') (M : Nat)
    (h0 : ∀ acc len t, G 0 acc len t = GR (stepN acc M) (Nat.succ len) t)
    (hs : ∀ k acc len t, G (k + 1) acc len t = (GR (stepN acc M) (Nat.succ len) t).bind fun t => (G k (stepN acc a) (Nat.succ len) t).bind fun t => (G k (stepN acc b) (Nat.succ len) t).bind fun t => G k (stepN acc c) (Nat.succ len) t) :
    ∀ (k acc len : Nat) (t t' : Tr), G k acc len t = some t' → Adds (fun p : List Nat × List Nat => keyN acc len (p.1 ++ M :: p.2)) (fun p => LS a b c k p.1 ∧ RR p.2) t t' := by
  intro k
  induction k with
  | zero =>
    intro acc len t t' h
    rw [h0] at h
    refine (hR _ _ _ _ h).congr (fun R => ([], R)) (fun R _ => by simp only [List.nil_append, keyN_cons]) (fun p hp => ⟨p.2, hp.2, ?_⟩) (fun R hR => ⟨.nil 0, hR⟩)
    obtain ⟨l, r⟩ := p
    cases hp.1
    rfl
  | succ k ih =>
    intro acc len t t' h
    rw [hs] at h
    obtain ⟨t1, h1, h⟩ := Option.bind_eq_some_iff.mp h
    obtain ⟨t2, h2, h⟩ := Option.bind_eq_some_iff.mp h
    obtain ⟨t3, h3, h⟩ := Option.bind_eq_some_iff.mp h
    have A1 : Adds (fun p : List Nat × List Nat => keyN acc len (p.1 ++ M :: p.2)) (fun p => p.1 = [] ∧ RR p.2) t t1 := (hR _ _ _ _ h1).congr (fun R => ([], R)) (fun R _ => by simp only [List.nil_append, keyN_cons]) (fun p hp => ⟨p.2, hp.2, by obtain ⟨l, r⟩ := p; obtain ⟨e, _⟩ := hp; simp only at e; subst e; rfl⟩) (fun R hR => ⟨rfl, hR⟩)
    have lift : ∀ (x : Nat) (s s' : Tr), Adds (fun p : List Nat × List Nat => keyN (stepN acc x) (Nat.succ len) (p.1 ++ M :: p.2)) (fun p => LS a b c k p.1 ∧ RR p.2) s s' → Adds (fun p : List Nat × List Nat => keyN acc len (p.1 ++ M :: p.2)) (fun p => ∃ l, p.1 = x :: l ∧ LS a b c k l ∧ RR p.2) s s' := fun x s s' A =>
      A.congr (fun p => (x :: p.1, p.2)) (fun p _ => by simp only [List.cons_append, keyN_cons]) (fun p hp => by
        obtain ⟨l, r⟩ := p
        obtain ⟨l', e, h1, h2⟩ := hp
        simp only at e; subst e
        exact ⟨(l', r), ⟨h1, h2⟩, rfl⟩) (fun p hp => ⟨p.1, rfl, hp.1, hp.2⟩)
    have A2 := lift a _ _ (ih _ _ _ _ h2)
    have A3 := lift b _ _ (ih _ _ _ _ h3)
    have A4 := lift c _ _ (ih _ _ _ _ h)
    refine (((A1.then A2).then A3).then A4).congr id (fun _ _ => rfl) (fun p hp => ⟨p, ?_, rfl⟩) (fun p hp => ?_)
    · obtain ⟨l, r⟩ := p
      obtain ⟨hl, hr⟩ := hp
      cases hl with
      | nil => exact .inl (.inl (.inl ⟨rfl, hr⟩))
      | cons hx hl =>
        rcases hx with rfl | rfl | rfl
        · exact .inl (.inl (.inr ⟨_, rfl, hl, hr⟩))
        · exact .inl (.inr ⟨_, rfl, hl, hr⟩)
        · exact .inr ⟨_, rfl, hl, hr⟩
    · obtain ⟨l, r⟩ := p
      rcases hp with ((⟨e, hr⟩ | ⟨l', e, hl, hr⟩) | ⟨l', e, hl, hr⟩) | ⟨l', e, hl, hr⟩ <;> simp only at e <;> subst e
      · exact ⟨.nil _, hr⟩
      · exact ⟨.cons (.inl rfl) hl, hr⟩
      · exact ⟨.cons (.inr (.inl rfl)) hl, hr⟩
      · exact ⟨.cons (.inr (.inr rfl)) hl, hr⟩
theorem goL_spec (a b c k acc len : Nat) {t t' : Tr} (h : goL a b c k acc len t = some t') : Adds (keyP acc len) (fun p => LS a b c k p.1 ∧ RS a b c 4 p.2) t t' :=
  goL_spec' (a := a) (b := b) (c := c) (RS a b c 4) (goR a b c 4) (goL a b c) (fun acc len t t' h => goR_spec a b c 4 acc len h) MARK (goL_zero a b c) (goL_succ a b c) k acc len t t' h

noncomputable def LVk (k a b c : Nat) (l : List Nat) : Prop := LS a b c (k + 1) l ∨ ∃ r, l = 0 :: r ∧ LS a b c k r
theorem okV_spec' {a b c k P M1 : Nat} (st : Nat → Nat → Nat) (key : Nat → Nat → List Nat × List Nat → Nat) (GL : Nat → Nat → Nat → Tr → Option Tr) (hG : ∀ k acc len t t', GL k acc len t = some t' → Adds (key acc len) (fun p => LS a b c k p.1 ∧ RS a b c 4 p.2) t t')
    (hkey : ∀ acc len x l r, key acc len (x :: l, r) = key (st acc x) (Nat.succ len) (l, r))
    (h : ((GL (k + 1) P 0 (.leaf M1)).bind fun t => GL k (st P 0) (Nat.succ 0) t).isSome = true) :
    (∀ p : List Nat × List Nat, LVk k a b c p.1 → RS a b c 4 p.2 → key P 0 p ≠ M1) ∧
    (∀ p q : List Nat × List Nat, LVk k a b c p.1 → RS a b c 4 p.2 → LVk k a b c q.1 → RS a b c 4 q.2 → key P 0 p = key P 0 q → p = q) := by
  obtain ⟨t, ht⟩ := Option.isSome_iff_exists.mp h
  obtain ⟨t1, h1, h2⟩ := Option.bind_eq_some_iff.mp ht
  have A1 := hG _ _ _ _ _ h1
  have A2 : Adds (key P 0) (fun p => ∃ l, p.1 = 0 :: l ∧ LS a b c k l ∧ RS a b c 4 p.2) t1 t := (hG _ _ _ _ _ h2).congr (fun p => (0 :: p.1, p.2)) (fun p _ => hkey P 0 0 p.1 p.2) (fun p hp => by
      obtain ⟨l, r⟩ := p
      obtain ⟨l', e, h1, h2⟩ := hp
      simp only at e; subst e
      exact ⟨(l', r), ⟨h1, h2⟩, rfl⟩) (fun p hp => ⟨p.1, rfl, hp.1, hp.2⟩)
  have A := A1.then A2
  have mem : ∀ p : List Nat × List Nat, LVk k a b c p.1 → RS a b c 4 p.2 → (LS a b c (k + 1) p.1 ∧ RS a b c 4 p.2) ∨ ∃ l, p.1 = 0 :: l ∧ LS a b c k l ∧ RS a b c 4 p.2 := fun p h1 h2 => by
    rcases h1 with h1 | ⟨r, e, h1⟩
    · exact .inl ⟨h1, h2⟩
    · exact .inr ⟨r, e, h1, h2⟩
  exact ⟨fun p h1 h2 e => A.new p (mem p h1 h2) e, fun p q h1 h2 h3 h4 e => A.apart p q (mem p h1 h2) (mem q h3 h4) e⟩

theorem stepN_eq (acc h : Nat) : stepN acc h = ((((acc + h * 14029467366897019727) % 2 ^ 64) * 2 ^ 31) % 2 ^ 64 + ((acc + h * 14029467366897019727) % 2 ^ 64) / 2 ^ 33) * 11400714785074694791 % 2 ^ 64 := by
  have e1 : (2 : Nat) ^ 64 = 18446744073709551616 := by decide
  have e2 : (2 : Nat) ^ 31 = 2147483648 := by decide
  have e3 : (2 : Nat) ^ 33 = 8589934592 := by decide
  rw [e1, e2, e3]
  unfold stepN
  generalize 18446744073709551616 = m
  generalize 2147483648 = p
  generalize 8589934592 = q
  generalize 14029467366897019727 = r
  generalize 11400714785074694791 = u
  rfl
noncomputable def codeOf (x : Int) : Nat := (hashInt x % ((2 ^ 64 : Nat) : Int)).toNat
noncomputable def tail64 (n : Nat) : Int := reduceHash (if n == 2 ^ 64 - 1 then 1546275796 else if n < 2 ^ 63 then (n : Int) else (n : Int) - ((2 ^ 64 : Nat) : Int))
theorem finN_eq (acc len : Nat) : finN acc len = (acc + (len ^^^ (2870177450012600261 ^^^ 3527539))) % 2 ^ 64 := by
  have e1 : (2 : Nat) ^ 64 = 18446744073709551616 := by decide
  rw [e1]
  unfold finN
  generalize 18446744073709551616 = m
  rfl
theorem tHash_eq (ns : List Int) : tHash ns = tail64 (keyN 2870177450012600261 0 (ns.map codeOf)) := by
  unfold tHash tail64 keyN
  have hf : ∀ (l : List Int) (acc : Nat), (l.map hashInt).foldl (fun acc h =>
      ((((acc + (h % ((2 ^ 64 : Nat) : Int)).toNat * 14029467366897019727) % 2 ^ 64) * 2 ^ 31) % 2 ^ 64 + ((acc + (h % ((2 ^ 64 : Nat) : Int)).toNat * 14029467366897019727) % 2 ^ 64) / 2 ^ 33) * 11400714785074694791 % 2 ^ 64) acc = (l.map codeOf).foldl stepN acc := by
    intro l
    induction l with
    | nil => intro acc; rfl
    | cons x r ih => intro acc; simp only [List.map_cons, List.foldl_cons]; rw [ih, stepN_eq]; rfl
  rw [finN_eq, ← hf ns]
  unfold Builtin.Tuple.tupleHashOf
  simp only [List.length_map, Nat.zero_add]
theorem finN_lt (acc len : Nat) : finN acc len < 2 ^ 64 := by rw [finN_eq]; exact Nat.mod_lt _ (by decide)
theorem reduceHash_id (i : Int) (h1 : -(2 ^ 63 : Int) ≤ i) (h2 : i < 2 ^ 63) (h3 : i ≠ -1) : reduceHash i = i := by
  unfold reduceHash
  rw [if_pos (by simp only [Bool.and_eq_true, decide_eq_true_eq]; exact ⟨h1, h2⟩), if_neg (by simpa using h3)]
theorem tail64_inj {m n : Nat} (hm : m < 2 ^ 64) (hn : n < 2 ^ 64) (m1 : m ≠ 2 ^ 64 - 1) (n1 : n ≠ 2 ^ 64 - 1) (h : tail64 m = tail64 n) : m = n := by
  have val : ∀ k : Nat, k < 2 ^ 64 → k ≠ 2 ^ 64 - 1 → tail64 k = if k < 2 ^ 63 then (k : Int) else (k : Int) - ((2 ^ 64 : Nat) : Int) := fun k h1 h2 => by
    unfold tail64
    have e : (k == 2 ^ 64 - 1) = false := by simpa using h2
    rw [e]
    simp only [Bool.false_eq_true, if_false]
    split <;> exact reduceHash_id _ (by omega) (by omega) (by omega)
  rw [val m hm m1, val n hn n1] at h
  split at h <;> split at h <;> omega
end Mine
end

section
set_option autoImplicit false
namespace Mine
open PySem
theorem keyP_cons (acc len x : Nat) (l r : List Nat) : keyP acc len (x :: l, r) = keyP (stepN acc x) (Nat.succ len) (l, r) := by
  simp only [keyP, List.cons_append, keyN_cons]
noncomputable def okG (GL : Nat → Nat → Nat → Tr → Option Tr) (st : Nat → Nat → Nat) (P M1 k : Nat) : Bool :=
  Option.rec false (fun _ => true) (Option.rec none (fun t => GL k (st P 0) (Nat.succ 0) t) (GL (k + 1) P 0 (.leaf M1)) : Option Tr)
theorem okG_some {GL : Nat → Nat → Nat → Tr → Option Tr} {st : Nat → Nat → Nat} {P M1 k : Nat} (h : okG GL st P M1 k = true) : ((GL (k + 1) P 0 (.leaf M1)).bind fun t => GL k (st P 0) (Nat.succ 0) t).isSome = true := by
  unfold okG at h
  revert h
  generalize GL (k + 1) P 0 (.leaf M1) = o
  intro h
  cases o with
  | none => cases h
  | some t =>
    have h : (Option.rec false (fun _ => true) (GL k (st P 0) (Nat.succ 0) t) : Bool) = true := h
    show (GL k (st P 0) (Nat.succ 0) t).isSome = true
    revert h
    generalize GL k (st P 0) (Nat.succ 0) t = o2
    intro h
    cases o2 with
    | none => cases h
    | some t => rfl
theorem okG_spec {a b c k P M1 : Nat} (h : okG (goL a b c) stepN P M1 k = true) :
    (∀ p : List Nat × List Nat, LVk k a b c p.1 → RS a b c 4 p.2 → keyP P 0 p ≠ M1) ∧
    (∀ p q : List Nat × List Nat, LVk k a b c p.1 → RS a b c 4 p.2 → LVk k a b c q.1 → RS a b c 4 q.2 → keyP P 0 p = keyP P 0 q → p = q) :=
  okV_spec' stepN keyP (goL a b c) (fun k acc len t t' h => goL_spec a b c k acc len h) keyP_cons (okG_some h)
end Mine
end

section
set_option autoImplicit false
namespace Mine
open PySem
theorem ok1 : okG (goL 97 98 99) stepN 2870177450012600261 18446744073709551615 3 = true := by decide +kernel
theorem ok2 : okG (goL 1 255 97) stepN 2870177450012600261 18446744073709551615 3 = true := by decide +kernel
end Mine
end

section
set_option autoImplicit false
namespace Mine
open PySem

theorem code_small {x : Int} (h0 : 0 ≤ x) (h1 : x ≤ 255) : codeOf x = x.toNat := by
  have e : rawHash x = x := by
    have h61 : (2 : Nat) ^ 61 - 1 = 2305843009213693951 := by decide
    unfold rawHash
    simp only
    have hx : ¬ x < 0 := by omega
    simp only [h61, hx, if_false]
    have e2 : ((x.natAbs : Nat) : Int) % ((2305843009213693951 : Nat) : Int) = x := by omega
    rw [e2, if_neg (by simp only [beq_iff_eq]; omega)]
  unfold codeOf hashInt
  rw [e, if_neg (by simp only [beq_iff_eq]; omega)]
  rw [Int.emod_eq_of_lt h0 (by omega)]
theorem code_mark : codeOf (-1) = MARK := by decide

theorem LS_of {a b c : Nat} : ∀ {k : Nat} {l : List Nat}, (∀ x ∈ l, x = a ∨ x = b ∨ x = c) → l.length ≤ k → LS a b c k l
  | k, [], _, _ => .nil k
  | 0, x :: r, _, h => by simp at h
  | k + 1, x :: r, h, hl => .cons (h x List.mem_cons_self) (LS_of (fun y hy => h y (List.mem_cons_of_mem _ hy)) (by simpa using hl))
theorem RS_of {a b c : Nat} : ∀ {k j : Nat} {u : List Nat}, (∀ x ∈ u, x = a ∨ x = b ∨ x = c) → j ≤ k → RS a b c k ((u ++ [0]).take j)
  | k, 0, u, _, _ => by rw [List.take_zero]; exact .nil k
  | k + 1, j + 1, [], _, _ => by simp only [List.nil_append, List.take_succ_cons, List.take_nil]; exact .edge k
  | k + 1, j + 1, x :: r, h, hl => by
    simp only [List.cons_append, List.take_succ_cons]
    exact .cons (h x List.mem_cons_self) (RS_of (fun y hy => h y (List.mem_cons_of_mem _ hy)) (by omega))

noncomputable def Apart (names : List Int) : Prop := ∀ (w w' : List Int) (g g' r0 r1 : Nat), (∀ l ∈ w, l ∈ names) → (∀ l ∈ w', l ∈ names) → g ≤ w.length → g' ≤ w'.length → r0 ≤ 4 → r1 ≤ 4 → tHash (viewL w g r0 r1) = tHash (viewL w' g' r0 r1) → viewL w g r0 r1 = viewL w' g' r0 r1

theorem apart_of {a b c : Nat} (ha : 1 ≤ a ∧ a ≤ 255) (hb : 1 ≤ b ∧ b ≤ 255) (hc : 1 ≤ c ∧ c ≤ 255) {P M1 : Nat} (hP : 2870177450012600261 = P) (hM : 2 ^ 64 - 1 = M1) (h : okG (goL a b c) stepN P M1 3 = true) : Apart [(a : Int), (b : Int), (c : Int)] := by
  obtain ⟨new, inj⟩ := okG_spec h
  have nm : ∀ {x : Int}, x ∈ [(a : Int), (b : Int), (c : Int)] → 1 ≤ x ∧ x ≤ 255 ∧ (x.toNat = a ∨ x.toNat = b ∨ x.toNat = c) := fun {x} hx => by
    simp only [List.mem_cons, List.not_mem_nil, or_false] at hx
    rcases hx with rfl | rfl | rfl
    · exact ⟨Int.ofNat_le.mpr ha.1, Int.ofNat_le.mpr ha.2, .inl (Int.toNat_natCast a)⟩
    · exact ⟨Int.ofNat_le.mpr hb.1, Int.ofNat_le.mpr hb.2, .inr (.inl (Int.toNat_natCast b))⟩
    · exact ⟨Int.ofNat_le.mpr hc.1, Int.ofNat_le.mpr hc.2, .inr (.inr (Int.toNat_natCast c))⟩
  have form : ∀ (w : List Int) (g r0 r1 : Nat), (∀ l ∈ w, l ∈ [(a : Int), (b : Int), (c : Int)]) → g ≤ w.length → r0 ≤ 4 → r1 ≤ 4 → (viewL w g r0 r1).map codeOf = ((lastN r0 (LL w g)).map Int.toNat) ++ MARK :: (((RR w g).take r1).map Int.toNat) ∧
      LVk 3 a b c ((lastN r0 (LL w g)).map Int.toNat) ∧ RS a b c 4 (((RR w g).take r1).map Int.toNat) := by
    intro w g r0 r1 hw hg h0 h1
    have hmk : ∀ x ∈ (0 :: w ++ [0]), 0 ≤ x ∧ x ≤ 255 := by
      intro x hx
      simp only [List.cons_append, List.mem_cons, List.mem_append, List.not_mem_nil, or_false] at hx
      rcases hx with rfl | h | rfl
      · decide
      · exact ⟨Int.le_trans (by decide) (nm (hw x h)).1, (nm (hw x h)).2.1⟩
      · decide
    have hc1 : ∀ (u : List Int), (∀ x ∈ u, 0 ≤ x ∧ x ≤ 255) → u.map codeOf = u.map Int.toNat := fun u hu => List.map_congr_left fun x hx => code_small (hu x hx).1 (hu x hx).2
    refine ⟨?_, ?_, ?_⟩
    · rw [viewL_eq hg, List.map_append, List.map_append, hc1 (lastN r0 (LL w g)) (fun x hx => hmk x (List.mem_of_mem_take (List.mem_of_mem_drop hx))), hc1 ((RR w g).take r1) (fun x hx => hmk x (List.mem_of_mem_drop (List.mem_of_mem_take hx)))]
      simp only [List.map_cons, List.map_nil, code_mark, List.append_assoc, List.singleton_append]
    · have hll : (LL w g).length = g + 1 := by unfold LL; rw [List.length_take]; simp; omega
      by_cases hgr : g + 1 ≤ r0
      · right
        refine ⟨(w.take g).map Int.toNat, ?_, LS_of ?_ ?_⟩
        · unfold lastN
          rw [hll, show g + 1 - r0 = 0 by omega, List.drop_zero, LL_eq hg]
          rfl
        · intro x hx
          obtain ⟨y, hy, rfl⟩ := List.mem_map.mp hx
          exact (nm (hw y (List.mem_of_mem_take hy))).2.2
        · rw [List.length_map, List.length_take]; omega
      · left
        refine LS_of ?_ ?_
        · intro x hx
          obtain ⟨y, hy, rfl⟩ := List.mem_map.mp hx
          unfold lastN at hy
          rw [hll, LL_eq hg, show g + 1 - r0 = (g - r0) + 1 by omega, List.drop_succ_cons] at hy
          exact (nm (hw y (List.mem_of_mem_take (List.mem_of_mem_drop hy)))).2.2
        · rw [List.length_map]; unfold lastN; rw [List.length_drop, hll]; omega
    · rw [RR_eq hg, List.map_take, List.map_append]
      refine RS_of ?_ h1
      intro x hx
      obtain ⟨y, hy, rfl⟩ := List.mem_map.mp hx
      exact (nm (hw y (List.mem_of_mem_drop hy))).2.2
  intro w w' g g' r0 r1 hw hw' hg hg' h0 h1 e
  obtain ⟨f1, f2, f3⟩ := form w g r0 r1 hw hg h0 h1
  obtain ⟨k1, k2, k3⟩ := form w' g' r0 r1 hw' hg' h0 h1
  rw [tHash_eq, tHash_eq, hP, f1, k1] at e
  have n1 := new (_, _) f2 f3
  have n2 := new (_, _) k2 k3
  have i1 := inj (_, _) (_, _) f2 f3 k2 k3
  unfold keyP at n1 n2 i1
  have e' := tail64_inj (by unfold keyN; exact finN_lt _ _) (by unfold keyN; exact finN_lt _ _) (by rw [hM]; exact n1) (by rw [hM]; exact n2) e
  have := i1 e'
  simp only [Prod.mk.injEq] at this
  obtain ⟨q1, q2⟩ := this
  rw [viewL_eq hg, viewL_eq hg']
  have nat_inj : ∀ (u v : List Int), (∀ x ∈ u, 0 ≤ x) → (∀ x ∈ v, 0 ≤ x) → u.map Int.toNat = v.map Int.toNat → u = v := by
    intro u
    induction u with
    | nil => intro v _ _ h; cases v with | nil => rfl | cons a r => cases h
    | cons a r ih =>
      intro v hu hv h
      cases v with
      | nil => cases h
      | cons b s =>
        simp only [List.map_cons, List.cons.injEq] at h
        have h1 := hu a List.mem_cons_self
        have h2 := hv b List.mem_cons_self
        rw [ih s (fun x hx => hu x (List.mem_cons_of_mem _ hx)) (fun x hx => hv x (List.mem_cons_of_mem _ hx)) h.2, show a = b by omega]
  have hl : ∀ l ∈ w, 1 ≤ l ∧ l ≤ 255 := fun l hl => ⟨(nm (hw l hl)).1, (nm (hw l hl)).2.1⟩
  have hl' : ∀ l ∈ w', 1 ≤ l ∧ l ≤ 255 := fun l hl => ⟨(nm (hw' l hl)).1, (nm (hw' l hl)).2.1⟩
  have nn : ∀ (w : List Int) (g r : Nat), (∀ l ∈ w, 1 ≤ l ∧ l ≤ 255) → ∀ x ∈ (RR w g).take r, 0 ≤ x := fun w g r hw x hx => marks_nonneg hw x (List.mem_of_mem_drop (List.mem_of_mem_take hx))
  rw [nat_inj _ _ (lastN_nonneg hl) (lastN_nonneg hl') q1, nat_inj _ _ (nn w g r1 hl) (nn w' g' r1 hl') q2]

theorem mem_hashes : ∀ {es : List (K × V)} {h : Int}, h ∈ hashes es → ∃ ns v, (K.t ns, v) ∈ es ∧ h = tHash ns
  | [], h, hm => by simp [hashes] at hm
  | (.t ns, v) :: r, h, hm => by
    simp only [hashes, List.mem_cons] at hm
    rcases hm with rfl | hm
    · exact ⟨ns, v, List.mem_cons_self, rfl⟩
    · obtain ⟨n', v', a, b⟩ := mem_hashes hm; exact ⟨n', v', List.mem_cons_of_mem _ a, b⟩
  | (.i n, v) :: r, h, hm => by
    simp only [hashes] at hm
    obtain ⟨n', v', a, b⟩ := mem_hashes hm; exact ⟨n', v', List.mem_cons_of_mem _ a, b⟩
theorem hashes_nodup {S : List Int → Prop} (hinj : ∀ v v', S v → S v' → tHash v = tHash v' → v = v') : ∀ {es : List (K × V)}, (∀ e ∈ es, ∃ v, e.1 = .t v ∧ S v) → (es.map (·.1)).Nodup → (hashes es).Nodup
  | [], _, _ => by simp [hashes]
  | (.i n, x) :: r, h, _ => by obtain ⟨v, e, _⟩ := h _ List.mem_cons_self; cases e
  | (.t ns, x) :: r, h, hn => by
    simp only [List.map_cons, List.nodup_cons] at hn
    simp only [hashes, List.nodup_cons]
    refine ⟨fun hm => ?_, hashes_nodup hinj (fun e he => h e (List.mem_cons_of_mem _ he)) hn.2⟩
    obtain ⟨n', v', a, b⟩ := mem_hashes hm
    obtain ⟨u, e1, s1⟩ := h _ List.mem_cons_self
    obtain ⟨u', e2, s2⟩ := h _ (List.mem_cons_of_mem _ a)
    simp only at e1 e2
    injection e1 with e1
    injection e2 with e2
    subst e1 e2
    have := hinj _ _ s1 s2 b
    subst this
    exact hn.1 (List.mem_map.mpr ⟨_, a, rfl⟩)
theorem KD.hashes {rows : Rows} {r0 r1 : Nat} {P : List Int → Nat → Prop} {es : List (K × V)} (D : KD rows r0 r1 P es) {names : List Int} (A : Apart names) (hP : ∀ w g, P w g → (∀ l ∈ w, l ∈ names) ∧ g ≤ w.length) (h0 : r0 ≤ 4) (h1 : r1 ≤ 4) : (Mine.hashes es).Nodup := by
  refine hashes_nodup (S := fun v => ∃ w g, P w g ∧ v = viewL w g r0 r1) ?_ ?_ D.nodup
  · rintro _ _ ⟨w, g, hp, rfl⟩ ⟨w', g', hp', rfl⟩ e
    exact A w w' g g' r0 r1 (hP w g hp).1 (hP w' g' hp').1 (hP w g hp).2 (hP w' g' hp').2 h0 h1 e
  · intro e he
    obtain ⟨w, g, x, hp, rfl, _⟩ := D.src e he
    exact ⟨_, rfl, w, g, hp, rfl⟩
end Mine
end

section
set_option autoImplicit false
namespace Mine
open PySem

noncomputable def turnBody : TSs := (.cons (.ite (.cmp .ne (.meth 12 (.var 69) (.cons (.var 22) (.cons (.idx (.var 49) (.lit (.int 0))) (.cons (.idx (.var 49) (.lit (.int 1))) .nil)))) (.call 24 (.cons (.var 70) (.cons (.var 22) (.cons (.var 44) (.cons (.var 49) .nil)))))) (.cons (.ret (.lit (.bool false))) .nil) .nil) (.cons (.assign 47 (.ite (.cmp .eq (.slice (.var 22) (.lit .nul) (.lit (.int 63))) (.var 65)) (.comp false 0 (.call 23 (.cons (.var 22) (.cons (.var 49) .nil))) (.var 0) (.cmp .isin (.var 0) (.var 72))) (.call 24 (.cons (.var 46) (.cons (.var 22) (.cons (.var 44) (.cons (.var 49) .nil))))))) (.cons (.ite (.cmp .ne (.meth 12 (.var 38) (.cons (.var 22) (.cons (.idx (.var 49) (.lit (.int 0))) (.cons (.idx (.var 49) (.lit (.int 1))) .nil)))) (.var 47)) (.cons (.ret (.lit (.bool false))) .nil) .nil) .nil)))
theorem filter_same {l : List Int} {p q : Int → Bool} (h : ∀ x ∈ l, p x = q x) : l.filter p = l.filter q := List.filter_congr h
theorem pts_eq {rows : Rows} {r0 r1 : Nat} {es : List (K × V)} {w nums : List Int} {a b : Int} (hn : ∀ g, g ≤ (w.take 63).length → ToldAt rows (w.take 63) g (nums.getD g 0))
    (H : ∀ g, g ≤ (w.take 63).length → ∃ x, look (.t (viewL (w.take 63) g r0 r1)) es = some (.int x) ∧ ToldAt rows (w.take 63) g x) :
    ((letL w a b).filter fun p => decide (nums.getD p.toNat 0 % 2 = 1)) = (letL w a b).filter fun p => decide (numOf (look (.t (viewL (w.take 63) p.toNat r0 r1)) es) % 2 = 1) := by
  refine filter_same fun p hp => ?_
  have := mem_letL hp
  obtain ⟨x, h1, h2⟩ := H p.toNat (by omega)
  rw [h1, (hn p.toNat (by omega)).uniq h2]
  rfl
theorem rangeI_nodup (lo : Int) (n : Nat) : (rangeI lo n).Nodup := by
  unfold rangeI
  rw [List.nodup_iff_pairwise_ne, List.pairwise_map]
  refine (List.nodup_iff_pairwise_ne.mp (List.nodup_range (n := n))).imp ?_
  intro a b h e
  exact h (by omega)
theorem filter_one' : ∀ {l : List Int} {s : Int}, l.Nodup → (l.filter fun p => decide (p ∈ [s])) = if s ∈ l then [s] else []
  | [], s, _ => rfl
  | a :: r, s, h => by
    rw [List.nodup_cons] at h
    rw [List.filter_cons, filter_one' h.2]
    by_cases e : a = s
    · subst e
      rw [if_pos (by simp), if_neg h.1, if_pos (by simp)]
    · rw [if_neg (by simpa using e)]
      have : s ∈ a :: r ↔ s ∈ r := by
        rw [List.mem_cons]
        exact ⟨fun h => h.resolve_left (fun q => e q.symm), .inr⟩
      simp only [this]
theorem kept_eq {w short st : List Int} {a b : Int} (hw : w.take 63 = short) (hst : st = [] ∨ ∃ s, st = [s] ∧ 0 ≤ s ∧ s ≤ short.length) :
    (((rangeI 0 (short.length + 1)).filter fun p => decide (p ∈ st)).filter fun p => decide (p ∈ letL w a b)) = (letL w a b).filter fun p => decide (p ∈ st) := by
  rcases hst with rfl | ⟨s, rfl, s0, s1⟩
  · have e : ∀ l : List Int, (l.filter fun p => decide (p ∈ ([] : List Int))) = [] := fun l => List.filter_eq_nil_iff.mpr (by simp)
    rw [e, e]; rfl
  · rw [filter_one' (rangeI_nodup _ _), filter_one' (l := letL w a b) (rangeI_nodup _ _), if_pos (mem_rangeI.mpr ⟨s0, by omega⟩)]
    by_cases h : s ∈ letL w a b
    · rw [if_pos h]; simp [h]
    · rw [if_neg h]; simp [h]

structure LSt (m m2 k dk : Nat) (rows rows' : Rows) (exc es due : List (K × V)) (σ : St) : Prop where
  t1 : Tab m σ rows exc
  t2 : Tab m2 σ rows' []
  hk : σ[k]? = some (.dict es)
  hd : σ[dk]? = some (.dict due)
theorem Tab.app {m : Nat} {σ : St} {rows : Rows} {exc : List (K × V)} (T : Tab m σ rows exc) (τ : List MO) : Tab m (σ ++ τ) rows exc := T.keep fun i _ hi => List.getElem?_append_left (by have := T.lt; omega)
theorem LSt.app {m m2 k dk : Nat} {rows rows' : Rows} {exc es due : List (K × V)} {σ : St} (S : LSt m m2 k dk rows rows' exc es due σ) (τ : List MO) : LSt m m2 k dk rows rows' exc es due (σ ++ τ) :=
  ⟨S.t1.app τ, S.t2.app τ, get_old S.hk, get_old S.hd⟩
noncomputable def DOK (rows : Rows) (r0 r1 : Nat) (es : List (K × V)) (w : List Int) : Prop := ∀ g, g ≤ w.length → ∃ x, look (.t (viewL w g r0 r1)) es = some (.int x) ∧ ToldAt rows w g x


noncomputable def LE (m m2 k dk r0 r1 : Nat) (e0 e1 : Int) (short st : List Int) : List (Nat × V) := [(38, .ref (m + 1)), (69, .ref (m2 + 1)), (46, .ref k), (70, .ref dk), (44, .seq true [.int r0, .int r1]), (49, .seq true [.int e0, .int e1]), (65, .seq false (iv short)), (72, .seq false (iv st))]
noncomputable def keptL (short st : List Int) : List Int := (rangeI 0 (short.length + 1)).filter fun p => decide (p ∈ st)
noncomputable def excL (short st : List Int) : List (K × V) := put (.i (wkey short)) (.seq true (iv (keptL short st))) []
section
variable {n : Nat} {σ : St}
theorem law_turn {m m2 k dk r0 r1 : Nat} {e0 e1 : Int} {short st w : List Int} {rows rows' : Rows} {es due : List (K × V)} {ρ : Rho} {Q : Fl → Rho → St → Prop} (hρ : Has ρ (LE m m2 k dk r0 r1 e0 e1 short st))
    (S : LSt m m2 k dk rows rows' (excL short st) es due σ) (h0 : r0 ≤ 100) (h1 : r1 ≤ 100)
    (hT : es.all (fun e => e.1.isI == false) = true) (hT' : due.all (fun e => e.1.isI == false) = true) (hst : st = [] ∨ ∃ s, st = [s] ∧ 0 ≤ s ∧ s ≤ short.length)
    (hne : w ≠ []) (hw : ∀ l ∈ w, 1 ≤ l ∧ l ≤ 255) (hs : ∀ l ∈ short, 1 ≤ l ∧ l ≤ 255) (hsl : short.length ≤ 63) (Hk : DOK rows r0 r1 es (w.take 63)) (Hd : DOK rows' r0 r1 due (w.take 63))
    (q : ∀ ρ₂ σ₂, Has ρ₂ (LE m m2 k dk r0 r1 e0 e1 short st) → LSt m m2 k dk rows rows' (excL short st) es due σ₂ → Q .next ρ₂ σ₂) :
    Exs turnBody (runW prog (n + 5)) (upd ρ 22 (.seq false (iv w))) σ Q := by
  obtain ⟨Ns2, _, _, _, _, c2, _⟩ := S.t2.ex
  refine hρ.go (at_inst S.t2.inst c2 (ix_seq (j := 0) rfl rfl (ix_seq (j := 1) rfl rfl (points_run S.t2 hne hw rfl fun nums fs hn => ?_))))
  have S1 := S.app [MO.list (iv fs)]
  obtain ⟨Ns1, _, _, _, _, c1, _⟩ := S1.t1.ex
  refine lpoints_run S1.hd hT' h0 h1 (fun g hg => let ⟨x, a, _⟩ := Hd g hg; ⟨x, a⟩) (eq_iv (brNF (pts_eq hn Hd) (Lk.mk ?_)))
  refine slice63 (eq_iv (brS (fun hsh => ?_) fun hsh => ?_))
  · refine let_run (ov_let (comp_filter (fun p => decide (p ∈ st)) (letL_few w e0 e1) (fun p _ G g => in_iv g) (fun _ _ g => g) trivial (Lk.mk ?_)))
    refine at_inst S1.t1.inst c1 (ix_seq (j := 0) rfl rfl (ix_seq (j := 1) rfl rfl (kept_run (ps := keptL short st) S1.t1 hne hw ?_ ?_ (eq_iv (brNF (kept_eq hsh hst) (q _ _ rfl S1))))))
    · rw [hsh, excL, look_put, if_pos rfl]
    · refine Nat.le_trans (List.length_filter_le _ _) ?_
      rw [length_rangeI]; exact Nat.le_trans (Nat.succ_le_succ hsl) (by decide)
  · refine lpoints_run S1.hk hT h0 h1 (fun g hg => let ⟨x, a, _⟩ := Hk g hg; ⟨x, a⟩) (Lk.mk ?_)
    refine at_inst S1.t1.inst c1 (ix_seq (j := 0) rfl rfl (ix_seq (j := 1) rfl rfl (points_run S1.t1 hne hw ?_ fun nums' fs' hn' => eq_iv (brNF (pts_eq hn' Hk) (q _ _ rfl (S1.app _))))))
    rw [excL, look_put, if_neg]
    · rfl
    · intro e
      injection e with e
      exact hsh (wkey_inj _ _ (fun l hl => hw l (List.mem_of_mem_take hl)) hs e.symm)
end
end Mine
end

section
set_option autoImplicit false
namespace Mine
open PySem

structure LP (names : List Int) (fs : Rows) (r0 r1 : Nat) (SL SR first second third : List Int) (gap shift : Nat) : Prop where
  nm : ∀ l ∈ names, 1 ≤ l ∧ l ≤ 255
  ap : Apart names
  ok : FormsOK fs
  seven : ∀ f ds, (f, ds) ∈ fs → ∀ d ∈ ds, d ≤ 7
  few : fs.length ≤ 10
  reach : Reach fs r0 r1
  h0 : r0 ≤ 4
  h1 : r1 ≤ 4
  seen : Seen SL SR r0 r1
  pat : ∃ b w e, Pat (SL ++ SR) b w e
  inn : ((SL.length : Nat) : Int) ∈ innerL (SL ++ SR)
  f1 : first ≠ [] ∧ first.length ≤ 100 ∧ ∀ l ∈ first, l ∈ names
  f2 : second ≠ [] ∧ second.length ≤ 60 ∧ ∀ l ∈ second, l ∈ names
  f3 : third ≠ [] ∧ third.length ≤ 62 ∧ ∀ l ∈ third, l ∈ names
  gapLe : gap ≤ second.length
  shiftLe : gap + shift ≤ third.length
  hsl : SL <:+ LL second gap
  hsr : SR <+: RR second gap
noncomputable def wsOf (first second third : List Int) : List (List Int) := [first.take 63, second, third]
section
variable {names : List Int} {fs : Rows} {r0 r1 : Nat} {SL SR first second third : List Int} {gap shift : Nat}
theorem LP.ws (P : LP names fs r0 r1 SL SR first second third gap shift) : ∀ w ∈ wsOf first second third, w ≠ [] ∧ w.length ≤ 63 ∧ ∀ l ∈ w, l ∈ names := by
  intro w hw
  simp only [wsOf, List.mem_cons, List.not_mem_nil, or_false] at hw
  rcases hw with rfl | rfl | rfl
  · refine ⟨?_, by rw [List.length_take]; omega, fun l hl => P.f1.2.2 l (List.mem_of_mem_take hl)⟩
    have := List.length_pos_iff.mpr P.f1.1
    exact List.length_pos_iff.mp (by rw [List.length_take]; omega)
  · exact ⟨P.f2.1, by have := P.f2.2.1; omega, P.f2.2.2⟩
  · exact ⟨P.f3.1, by have := P.f3.2.1; omega, P.f3.2.2⟩
theorem LP.ws255 (P : LP names fs r0 r1 SL SR first second third gap shift) : ∀ w ∈ wsOf first second third, ∀ l ∈ w, 1 ≤ l ∧ l ≤ 255 := fun w hw l hl => P.nm l ((P.ws w hw).2.2 l hl)
theorem FormsOK.plain {fs : Rows} (h : FormsOK fs) : Plain fs := ⟨fun f ds hm => ⟨(h.pat f ds hm).2.1, by obtain ⟨⟨b, w, e, hp⟩, _⟩ := h.pat f ds hm; exact hp.ne'⟩⟩
theorem LP.loc (P : LP names fs r0 r1 SL SR first second third gap shift) : Loc (rowsOf fs) r0 r1 (wsOf first second third) := local_law P.ok.plain P.reach P.ws255
end

theorem Tab.setExc {m : Nat} {σ : St} {rows : Rows} {exc exc' : List (K × V)} (T : Tab m σ rows exc) (h : exc'.all (fun e => e.1.isI == true) = true) : Tab m (σ.set (m + 4) (.dict exc')) rows exc' where
  ex := by
    obtain ⟨Ns, links, nums, t, l, a, b, c⟩ := T.ex
    exact ⟨Ns, links, nums, t, l, get_set_ne a (by omega), get_set_ne b (by omega), get_set_ne c (by omega)⟩
  inst := get_set_ne T.inst (by omega)
  excAt := get_set_eq T.excAt
  excI := h


section
variable {n : Nat} {σ : St} {Q : V → St → Prop}
noncomputable def TE (hr r0 r1 : Nat) (e0 e1 : Int) (left first second third : List Int) : List (Nat × V) := [(44, .seq true [.int r0, .int r1]), (49, .seq true [.int e0, .int e1]), (65, .seq false (iv (first.take 63))), (62, .ref hr), (20, .seq false (iv left)), (23, .seq false (iv first)), (64, .seq false (iv second)), (66, .seq false (iv third))]
noncomputable def TD (m k r0 r1 gap : Nat) (second : List Int) : List (Nat × V) := [(38, .ref (m + 1)), (46, .ref k), (68, .seq true (iv (viewL second gap r0 r1)))]
theorem mem_at {α : Type} {xs : List α} {i : Nat} {x : α} (h : xs[i]? = some x) : x ∈ xs := List.mem_of_getElem? h
theorem tail3_run {names : List Int} {fs : Rows} {r0 r1 : Nat} {SL SR first second third : List Int} {gap shift : Nat} (P : LP names fs r0 r1 SL SR first second third gap shift)
    {m m2 k dk hr : Nat} {e0 e1 : Int} {rows' : Rows} {es due : List (K × V)} {h0 left : List Int} {v1 : V} {ρ : Rho} (hQ : ∀ σ, Q (.bool true) σ)
    (hρ : Has ρ ((69, .ref (m2 + 1)) :: (70, .ref dk) :: (TD m k r0 r1 gap second ++ TE hr r0 r1 e0 e1 left first second third)))
    (S : LSt m m2 k dk (rowsOf fs) rows' [] es due σ) (hh : σ[hr]? = some (.list [.seq false (iv h0), v1])) (hm2 : m + 4 < m2) (hmk : m + 4 ≠ k) (hmd : m + 4 ≠ dk) (hst : h0.length + left.length ≤ (first.take 63).length)
    (hT : es.all (fun e => e.1.isI == false) = true) (hT' : due.all (fun e => e.1.isI == false) = true) (Hk : ∀ w ∈ wsOf first second third, DOK (rowsOf fs) r0 r1 es w) (Hd : ∀ w ∈ wsOf first second third, DOK rows' r0 r1 due w) :
    Lk (Exs (drp 31 d26.2) (runW prog (n + 5)) ρ σ (RetQ Q)) := by
  obtain ⟨Ns1, _, _, _, _, c1, _⟩ := S.t1.ex
  have hs63 : (first.take 63).length ≤ 63 := List.length_take_le 63 first
  have i1 : first.take 63 ∈ wsOf first second third := List.mem_cons_self
  have i2 : second ∈ wsOf first second third := List.mem_cons_of_mem _ List.mem_cons_self
  have i3 : third ∈ wsOf first second third := List.mem_cons_of_mem _ (List.mem_cons_of_mem _ List.mem_cons_self)
  have w1 := P.ws _ i1
  have l1 := P.ws255 _ i1
  obtain ⟨x, hx, _⟩ := Hk second i2 gap P.gapLe
  have rest : ∀ (st : List Int) (ρ' : Rho), (st = [] ∨ ∃ s, st = [s] ∧ 0 ≤ s ∧ s ≤ (first.take 63).length) → Has ρ' (LE m m2 k dk r0 r1 e0 e1 (first.take 63) st ++ [(23, .seq false (iv first)), (64, .seq false (iv second)), (66, .seq false (iv third))]) →
      Lk (Exs (drp 32 d26.2) (runW prog (n + 5)) ρ' σ (RetQ Q)) := by
    intro st ρ' hst' hρ'
    refine hρ'.go (Lk.mk (at_inst S.t1.inst c1 (exc_run S.t1 w1.1 l1 hs63 (fun p hp => ?_) (by decide) (And.intro rfl (Lk.mk (And.intro (ll rfl) (ov_seq ?_)))))))
    · rcases hst' with rfl | ⟨s, rfl, s0, s1⟩
      · cases hp
      · rw [List.mem_singleton.mp hp]; exact ⟨s0, s1⟩
    have S' : LSt m m2 k dk (rowsOf fs) rows' (excL (first.take 63) st) es due (σ.set (m + 4) (.dict (excL (first.take 63) st))) :=
      ⟨S.t1.setExc (allI_put rfl rfl), S.t2.keep fun i hi _ => List.getElem?_set_ne (Nat.ne_of_lt (Nat.lt_of_lt_of_le hm2 hi)), get_set_ne S.hk hmk, get_set_ne S.hd hmd⟩
    refine loop (fun i ρ₂ σ₂ => Has ρ₂ (LE m m2 k dk r0 r1 e0 e1 (first.take 63) st) ∧ LSt m m2 k dk (rowsOf fs) rows' (excL (first.take 63) st) es due σ₂) ⟨rfl, S'⟩ ?_ ?_
    · intro i v ρ₂ σ₂ hv hP
      have hv' : (lv [first, second, third])[i]? = some v := hv
      refine at_map hv' fun w hw => ?_
      have hw' : w ≠ [] ∧ (∀ l ∈ w, 1 ≤ l ∧ l ≤ 255) ∧ w.take 63 ∈ wsOf first second third := by
        have hwm := List.mem_of_getElem? hw
        have one : ∀ {w : List Int}, w ∈ wsOf first second third → w ≠ [] ∧ (∀ l ∈ w, 1 ≤ l ∧ l ≤ 255) ∧ w.take 63 ∈ wsOf first second third := fun {w} h => ⟨(P.ws w h).1, P.ws255 w h, by rw [List.take_of_length_le (P.ws w h).2.1]; exact h⟩
        rcases List.mem_cons.mp hwm with rfl | hwm
        · exact ⟨P.f1.1, fun l hl => P.nm l (P.f1.2.2 l hl), i1⟩
        rcases List.mem_cons.mp hwm with rfl | hwm
        · exact one i2
        · rw [List.mem_singleton.mp hwm]; exact one i3
      refine law_turn hP.1 hP.2 (Nat.le_trans P.h0 (by decide)) (Nat.le_trans P.h1 (by decide)) hT hT' hst' hw'.1 hw'.2.1 l1 hs63 (Hk _ hw'.2.2) (Hd _ hw'.2.2) fun ρ₃ σ₃ a b => ?_
      exact And.intro trivial ⟨a, b⟩
    · intro ρ₂ σ₂ _
      exact Lk.mk (hQ _)
  refine hρ.go (Lk.mk (at_idxT S.hk hT hx (And.intro (by decide) ?_)))
  refine brS (fun _ => ?_) fun _ => ?_
  · refine ix_list hh (j := 0) rfl rfl (add_iv h0 left rfl rfl (Nat.le_trans hst (Nat.le_trans hs63 (by decide))) (And.intro (ll rfl) ?_))
    refine rest [((iv (h0 ++ left)).length : Int)] _ (.inr ⟨_, rfl, Int.natCast_nonneg _, ?_⟩) ?_
    · rw [iv_len, List.length_append]; exact Int.ofNat_le.mpr hst
    · rfl
  · refine And.intro (ll rfl) (rest [] _ (.inl rfl) ?_)
    rfl
end
end Mine
end

section
set_option autoImplicit false
namespace Mine
open PySem

theorem FormsOK.more {fs : Rows} {shape : List Int} {g : Nat} {top : Int} (h : FormsOK fs) (hf : fs.length ≤ 10) (hp : ∃ b w e, Pat shape b w e) (hg : g ≤ shape.length) (t0 : 0 ≤ top) (t9 : top ≤ 9) : FormsOK (moreL fs shape g top) where
  pat f ds hm := by
    rcases moreL_mem.mp hm with ⟨_, hm'⟩ | ⟨rfl, ds', hm', rfl⟩ | ⟨rfl, _, rfl⟩
    · exact h.pat f ds hm'
    · obtain ⟨a, b, c⟩ := h.pat _ _ hm'
      refine ⟨a, ?_, fun d hd => ?_⟩
      · simp only [List.length_append, List.length_take, List.length_drop, List.length_singleton]; omega
      · simp only [List.mem_append, List.mem_singleton] at hd
        rcases hd with (hd | rfl) | hd
        · exact c d (List.mem_of_mem_take hd)
        · exact ⟨t0, t9⟩
        · exact c d (List.mem_of_mem_drop hd)
    · refine ⟨hp, ?_, fun d hd => ?_⟩
      · simp only [List.length_append, List.length_replicate, List.length_singleton]; omega
      · simp only [List.mem_append, List.mem_singleton, List.mem_replicate] at hd
        omega
  apart i j f ds ds' hi hj := by
    have one : ∀ (i : Nat) (ds : List Int), (moreL fs shape g top)[i]? = some (f, ds) → (∃ ds₀, fs[i]? = some (f, ds₀)) ∨ (i = fs.length ∧ f = shape ∧ shape ∉ fs.map (·.1)) := fun i ds hi => by
      unfold moreL at hi
      by_cases hlt : i < fs.length
      · rw [List.getElem?_append_left (by simpa using hlt), List.getElem?_map] at hi
        obtain ⟨⟨f', ds'⟩, h1, h2⟩ := Option.map_eq_some_iff.mp hi
        simp only [Prod.mk.injEq] at h2
        exact .inl ⟨ds', by rw [h1, h2.1]⟩
      · rw [List.getElem?_append_right (by simp; omega)] at hi
        have hl := (List.getElem?_eq_some_iff.mp hi).1
        split at hi
        · cases hi
        · rename_i hn
          rw [if_neg hn] at hl
          simp only [List.length_map, List.length_singleton] at hl
          have e : i = fs.length := by omega
          subst e
          simp at hi
          exact .inr ⟨rfl, hi.1.symm, hn⟩
    rcases one i ds hi with ⟨d1, a⟩ | ⟨a, a', a''⟩ <;> rcases one j ds' hj with ⟨d2, c⟩ | ⟨c, c', c''⟩
    · exact h.apart i j f d1 d2 a c
    · exfalso; rw [c'] at a; exact c'' (List.mem_map.mpr ⟨_, List.mem_of_getElem? a, rfl⟩)
    · exfalso; rw [a'] at c; exact a'' (List.mem_map.mpr ⟨_, List.mem_of_getElem? c, rfl⟩)
    · omega
  few := by
    unfold moreL
    rw [List.length_append, List.length_map]
    split
    · simp; omega
    · simp; omega

section
variable {names : List Int} {fs : Rows} {r0 r1 : Nat} {SL SR first second third : List Int} {gap shift : Nat}
theorem LP.seenV (P : LP names fs r0 r1 SL SR first second third gap shift) : viewL second gap r0 r1 = SL ++ [-1] ++ SR := by
  have hw : ∀ l ∈ second, 1 ≤ l ∧ l ≤ 255 := fun l hl => P.nm l (P.f2.2.2 l hl)
  rw [viewL_eq P.gapLe, (seen_left hw P.gapLe P.seen.l P.seen.le).mp P.hsl, (seen_right hw P.gapLe P.seen.r P.seen.re).mp P.hsr]
theorem LP.more (P : LP names fs r0 r1 SL SR first second third gap shift) {top : Int} (t7 : 7 < top) (t9 : top ≤ 9) {w : List Int} (hw : w ∈ wsOf first second third) {g : Nat} (hg : g ≤ w.length) {x : Int} (ht : ToldAt (rowsOf fs) w g x) :
    ToldAt (rowsOf (moreL fs (SL ++ SR) SL.length top)) w g (if viewL second gap r0 r1 = viewL w g r0 r1 then top else x) := by
  have := more_law P.ok.plain (P.ok.more P.few P.pat (by simp) (by omega) t9).plain P.seven (fun f ds ds' h h' => by
    obtain ⟨i, hi⟩ := List.getElem?_of_mem h
    obtain ⟨j, hj⟩ := List.getElem?_of_mem h'
    have := P.ok.apart i j f ds ds' hi hj
    subst this
    rw [hi] at hj
    simpa using hj) rfl P.inn t7 P.seen (P.ws255 w hw) hg ht
  rw [← P.seenV] at this
  by_cases e : viewL second gap r0 r1 = viewL w g r0 r1
  · rw [if_pos e]; rw [if_pos e.symm] at this; exact this
  · rw [if_neg e]; rw [if_neg (fun q => e q.symm)] at this; exact this
end


theorem all_notI {es : List (K × V)} (h : es.all (fun e => e.1.isI == false) = true) : es.all (fun e => !e.1.isI) = true := by
  rw [List.all_eq_true] at *
  exact fun e he => by rw [beq_iff_eq.mp (h e he)]; rfl
theorem at_copy {σ : St} {k : Nat} {es : List (K × V)} {Q : V → St → Prop} (hk : σ[k]? = some (.dict es)) (hT : es.all (fun e => e.1.isI == false) = true) (hl : es.length ≤ 1000) (hn : (hashes es).Nodup) (hne : es ≠ []) (q : Q (.ref σ.length) (σ ++ [.dict es])) : dictCopyW σ (.ref k) Q := by
  unfold dictCopyW
  exact ⟨es, hk, ⟨all_notI hT, lim' hl, hn, hne⟩, q⟩
theorem compD_go {σ : St} {cal : PC} {ρ : Rho} {x r : Nat} {cond : SE} {es : List (K × V)} {Q' : Prop} (hr : σ[r]? = some (.dict es)) (hT : es.all (fun e => e.1.isI == false) = true) (hl : es.length ≤ 1000)
    (hc : ∀ e ∈ es, cond cal (upd ρ x e.1.toV) σ fun v σ' => v = .bool false ∧ σ' = σ) (q : Q') :
    ∃ es, σ[r]? = some (.dict es) ∧ (es.all (fun e => !e.1.isI) = true ∧ es.length < LIM) ∧ (∀ e ∈ es, cond cal (upd ρ x e.1.toV) σ fun v σ' => v = .bool false ∧ σ' = σ) ∧ Q' := ⟨es, hr, ⟨all_notI hT, lim' hl⟩, hc, q⟩

section
variable {n : Nat} {σ : St} {Q : V → St → Prop}
theorem more_run' {fl lo g : Nat} {gi : Int} {fs : Rows} {shape : List Int} {top : Int} (hgi : gi = (g : Nat)) (h : FormsAt lo σ fl fs) (hok : FormsOK fs) (hg : g ≤ shape.length) (hs : shape.length ≤ 100) (hlo : lo ≤ σ.length)
    (k : ∀ σ', FormsAt lo σ' σ.length (moreL fs shape g top) → (∀ i, i < σ.length → σ'[i]? = σ[i]?) → Q (.ref σ.length) σ') :
    Cl (runW prog (n + 1)) 20 [.ref fl, .seq false (iv shape), .int gi, .int top] σ Q := hgi ▸ more_run h hok hg hs hlo k
noncomputable def TG (fl : Nat) (bg top : Int) (far : Bool) (shape : List Int) : List (Nat × V) := [(37, .ref fl), (41, .seq false (iv shape)), (60, .int bg), (43, .int top), (57, .bool far)]
theorem tail2_run {names : List Int} {fs : Rows} {r0 r1 : Nat} {SL SR first second third : List Int} {gap shift : Nat} (P : LP names fs r0 r1 SL SR first second third gap shift)
    {m k hr fl lo bg : Nat} {e0 e1 top : Int} {es : List (K × V)} {h0 left : List Int} {v1 : V} {far : Bool} {ρ : Rho} (hQ : ∀ σ, Q (.bool true) σ)
    (hρ : Has ρ (TG fl bg top far (SL ++ SR) ++ (TD m k r0 r1 gap second ++ TE hr r0 r1 e0 e1 left first second third)))
    (hbg : bg + left.length = SL.length) (t7 : 7 < top) (t9 : top ≤ 9) (hst : h0.length + left.length ≤ (first.take 63).length)
    (T1 : Tab m σ (rowsOf fs) []) (F : FormsAt lo σ fl fs) (hk : σ[k]? = some (.dict es)) (hmk : m + 4 < k) (D : KD (rowsOf fs) r0 r1 (fun w g => w ∈ wsOf first second third ∧ g ≤ w.length) es) (hes : es.length ≤ 1000) (hh : σ[hr]? = some (.list [.seq false (iv h0), v1])) (hlo : lo ≤ σ.length) :
    Lk (Exs (drp 27 d26.2) (runW prog (n + 6)) ρ σ (RetQ Q)) := by
  have hmσ := T1.lt
  have hshl : (SL ++ SR).length ≤ 8 := by rw [List.length_append]; exact Nat.add_le_add (Nat.le_trans P.seen.l P.h0) (Nat.le_trans P.seen.r P.h1)
  have hgl : SL.length ≤ (SL ++ SR).length := by rw [List.length_append]; exact Nat.le_add_right _ _
  have okM := P.ok.more (g := SL.length) P.few P.pat hgl (Int.le_trans (by decide) (Int.le_of_lt t7)) t9
  have hkl := lt_at hk
  have hhl := lt_at hh
  have hsm : second ∈ wsOf first second third := List.mem_cons_of_mem _ List.mem_cons_self
  have hashN : (hashes es).Nodup := D.hashes P.ap (fun w g h => ⟨(P.ws w h.1).2.2, h.2⟩) P.h0 P.h1
  have hne : es ≠ [] := by
    obtain ⟨x, hx, _⟩ := D.all second gap ⟨hsm, P.gapLe⟩
    intro e; rw [e] at hx; cases hx
  refine hρ.go (Lk.mk (more_run' (g := SL.length) (by rw [iv_len, ← hbg]; rfl) F P.ok hgl (Nat.le_trans hshl (by decide)) hlo fun σ₁ F₁ hk₁ => table_run F₁ okM fun σ₂ T2 hk₂ => ?_))
  have hσ₁ : σ.length < σ₁.length := let ⟨_, its, q, _, _⟩ := F₁; lt_at q
  have hσ₂ := T2.lt
  have old₂ : ∀ i, i < σ.length → σ₂[i]? = σ[i]? := fun i hi => (hk₂ i (Nat.lt_trans hi hσ₁)).trans (hk₁ i hi)
  refine at_copy ((old₂ k hkl).trans hk) D.T hes hashN hne (And.intro (ll rfl) (Lk.mk ?_))
  -- due
  refine at_putT (get_last _ _) D.T (lim' hes) (Lk.mk ?_)
  rw [set_last]
  have hTd : (put (.t (viewL second gap r0 r1)) (.int top) es).all (fun e => e.1.isI == false) = true := allI_put D.T rfl
  have Hk : ∀ w ∈ wsOf first second third, DOK (rowsOf fs) r0 r1 es w := fun w hw g hg => D.all w g ⟨hw, hg⟩
  have Hd : ∀ w ∈ wsOf first second third, DOK (rowsOf (moreL fs (SL ++ SR) SL.length top)) r0 r1 (put (.t (viewL second gap r0 r1)) (.int top) es) w := fun w hw g hg => by
    obtain ⟨x, hx, ht⟩ := Hk w hw g hg
    have := P.more t7 t9 hw hg ht
    rw [look_put]
    by_cases e : viewL second gap r0 r1 = viewL w g r0 r1
    · rw [if_pos e] at this
      rw [if_pos (congrArg K.t e)]
      exact ⟨top, rfl, this⟩
    · rw [if_neg e] at this
      rw [if_neg fun q => e (K.t.inj q)]
      exact ⟨x, hx, this⟩
  generalize put (.t (viewL second gap r0 r1)) (.int top) es = due at *
  have loc' : Loc (rowsOf (moreL fs (SL ++ SR) SL.length top)) r0 r1 (wsOf first second third) := by
    intro w hw w' hw' g g' hg hg' hv y ht
    obtain ⟨x, hx, hx'⟩ := Hk w hw g hg
    have a := P.more t7 t9 hw hg hx'
    have b := P.more t7 t9 hw' hg' (P.loc w hw w' hw' g g' hg hg' hv x hx')
    rw [hv] at a
    rw [ht.uniq a]
    exact b
  have T2' : Tab σ₁.length (σ₂ ++ [MO.dict due]) (rowsOf (moreL fs (SL ++ SR) SL.length top)) [] := T2.app _
  have hdl : (σ₂ ++ [MO.dict due])[σ₂.length]? = some (.dict due) := get_last _ _
  have hq : (σ₂ ++ [MO.dict due]).length = σ₂.length + 1 := List.length_append
  have oldS : ∀ i, i < σ.length → (σ₂ ++ [MO.dict due])[i]? = σ[i]? := fun i hi => by rw [List.getElem?_append_left (by omega), old₂ i hi]
  generalize hsS : σ₂ ++ [MO.dict due] = S at *
  -- later
  have later : ∀ (ws : List (List Int)) (ρ' : Rho), (∀ w ∈ ws, w ∈ wsOf first second third) → ws.length ≤ 5 → Has ρ' ((69, .ref (σ₁.length + 1)) :: (70, .ref σ₂.length) :: (TD m k r0 r1 gap second ++ TE hr r0 r1 e0 e1 left first second third)) →
      Cl (runW prog (n + 6)) 22 [.ref (σ₁.length + 1), .seq false (lv ws), .seq true [.int r0, .int r1]] S fun v σ' => Lk (Exs (drp 30 d26.2) (runW prog (n + 6)) (upd ρ' 71 v) σ' (RetQ Q)) := by
    intro ws ρ' hws hwl hρ'
    refine hρ'.go (G := fun ρ' => Cl _ _ _ S fun v σ' => Lk (Exs (drp 30 d26.2) _ (upd ρ' 71 v) σ' _)) ?_
    refine known_run T2' (fun w hw => ⟨fun l hl => ?_, Nat.le_trans (P.ws w (hws w hw)).2.1 (by decide)⟩) hwl (Nat.le_trans P.h0 (by decide)) (Nat.le_trans P.h1 (by decide)) (fun w hw w' hw' => loc' w (hws w hw) w' (hws w' hw')) fun σ₄ K4 => ?_
    · have := P.ws255 w (hws w hw) l hl
      exact ⟨Int.le_trans (by decide) this.1, this.2⟩
    obtain ⟨old₄, es', hes', D', hlen'⟩ := K4
    have old : ∀ i, i < σ.length → σ₄[i]? = σ[i]? := fun i hi => (old₄ i (by omega)).trans (oldS i hi)
    have hd4 := (old₄ σ₂.length (by omega)).trans hdl
    refine Lk.mk (compD_go hes' D'.T hlen' (fun e he => ?_) (And.intro (ll rfl) (eq_iv (x := []) (y := []) ?_)))
    · obtain ⟨w, g, x', ⟨hw, hg⟩, rfl, ht'⟩ := D'.src e he
      obtain ⟨y, hy, hty⟩ := D'.all w g ⟨hw, hg⟩
      obtain ⟨z, hz, htz⟩ := Hd w (hws w hw) g hg
      rw [← hty.uniq htz] at hz
      refine at_idxT hes' D'.T hy (at_idxT hd4 hTd hz ?_)
      exact And.intro (by rw [decide_eq_true rfl]; rfl) rfl
    · refine tail3_run (n := n + 1) P (e0 := e0) (e1 := e1) (v1 := v1) hQ ?_ ⟨T1.keep fun i _ hi => old i (by omega), T2'.keep fun i _ hi => old₄ i (by omega), (old k hkl).trans hk, hd4⟩ ((old hr hhl).trans hh) (by omega) (by omega) (by omega) hst D.T hTd Hk Hd
      rfl
  cases far with
  | true =>
    refine And.intro (ll rfl) (later [second, third] _ (fun w hw => List.mem_cons_of_mem _ hw) (Nat.le_of_ble_eq_true rfl) ?_)
    rfl
  | false =>
    refine And.intro (ll rfl) (later (wsOf first second third) _ (fun w hw => hw) (Nat.le_of_ble_eq_true rfl) ?_)
    rfl
end
end Mine
end

section
set_option autoImplicit false
namespace Mine
open PySem

section
variable {n : Nat} {σ : St} {Q : V → St → Prop}
theorem view_run' {w : List Int} {g r0 r1 : Nat} {gi : Int} (hgi : gi = (g : Nat)) (hw : w.length ≤ 100) (hg : g ≤ 100) (h0 : r0 ≤ 100) (h1 : r1 ≤ 100) (k : Q (.seq true (iv (viewL w g r0 r1))) σ) : Cl (runW prog (n + 1)) 21 [.seq false (iv w), .int gi, .seq true [.int r0, .int r1]] σ Q := hgi ▸ view_run hw hg h0 h1 k
noncomputable def TH (fl shift : Nat) (bg : Int) (far : Bool) (shape : List Int) : List (Nat × V) := [(67, .int shift), (37, .ref fl), (41, .seq false (iv shape)), (60, .int bg), (57, .bool far)]
theorem tail1_run {names : List Int} {fs : Rows} {r0 r1 : Nat} {SL SR first second third : List Int} {gap shift : Nat} (P : LP names fs r0 r1 SL SR first second third gap shift)
    {hr fl lo bg : Nat} {e0 e1 : Int} {h0 h1 left : List Int} {far : Bool} {ρ : Rho} (hQ : ∀ σ, Q (.bool true) σ)
    (hρ : Has ρ (TH fl shift bg far (SL ++ SR) ++ TE hr r0 r1 e0 e1 left first second third))
    (hbg : bg + left.length = SL.length) (hst : h0.length + left.length ≤ (first.take 63).length) (hgap : gap = h1.length + left.length)
    (F : FormsAt lo σ fl fs) (hh : σ[hr]? = some (.list [.seq false (iv h0), .seq false (iv h1)])) (hlo : lo ≤ σ.length) :
    Lk (Exs (drp 22 d26.2) (runW prog (n + 6)) ρ σ (RetQ Q)) := by
  have hr0 := Nat.le_trans P.h0 (show 4 ≤ 100 by decide)
  have hr1 := Nat.le_trans P.h1 (show 4 ≤ 100 by decide)
  have hf2 := Nat.le_trans P.f2.2.1 (show 60 ≤ 100 by decide)
  have hf3 := Nat.le_trans P.f3.2.1 (show 62 ≤ 100 by decide)
  have hg := P.gapLe
  have hsh := P.shiftLe
  have hhl := lt_at hh
  have i1 : first.take 63 ∈ wsOf first second third := List.mem_cons_self
  have i3 : third ∈ wsOf first second third := List.mem_cons_of_mem _ (List.mem_cons_of_mem _ List.mem_cons_self)
  have hf255 : ∀ l ∈ first, 1 ≤ l ∧ l ≤ 255 := fun l hl => P.nm l (P.f1.2.2 l hl)
  refine hρ.go (Lk.mk (table_run F P.ok fun σ₁ T1 old₁ => ?_))
  refine ix_list ((old₁ hr hhl).trans hh) (j := 1) rfl rfl (add_iv h1 left rfl rfl (by rw [← hgap]; omega) (And.intro (ll rfl) ?_))
  have hσ₁ := T1.lt
  have go : ∀ ρ, Has ρ ((38, .ref (σ.length + 1)) :: (42, .int gap) :: (TH fl shift bg far (SL ++ SR) ++ TE hr r0 r1 e0 e1 left first second third)) → Lk (Exs (drp 23 d26.2) (runW prog (n + 6)) ρ σ₁ (RetQ Q)) := by
    intro ρ hρ
    refine hρ.go (Lk.mk (And.intro (ll rfl) (known_run (ws := wsOf first second third) T1 (fun w hw => ⟨fun l hl => ?_, Nat.le_trans (P.ws w hw).2.1 (by decide)⟩) (Nat.le_of_ble_eq_true rfl) hr0 hr1 P.loc fun σ₂ K => ?_)))
    · have := P.ws255 w hw l hl
      exact ⟨Int.le_trans (by decide) this.1, this.2⟩
    obtain ⟨old₂, es, hk, D, hlen⟩ := K
    have T2 : Tab σ.length σ₂ (rowsOf fs) [] := T1.keep fun i _ hi => old₂ i (by omega)
    obtain ⟨Ns, _, _, _, _, c0, _⟩ := T2.ex
    have Hk : ∀ w ∈ wsOf first second third, DOK (rowsOf fs) r0 r1 es w := fun w hw g hg => D.all w g ⟨hw, hg⟩
    refine Lk.mk (at_inst T2.inst c0 (ix_seq (j := 0) rfl rfl (ix_seq (j := 1) rfl rfl (points_run T2 P.f1.1 hf255 rfl fun nums ff hn => ?_))))
    have hk' : (σ₂ ++ [MO.list (iv ff)])[σ₁.length]? = some (.dict es) := get_old hk
    refine lpoints_run hk' D.T hr0 hr1 (fun g hg => let ⟨x, a, _⟩ := Hk _ i1 g hg; ⟨x, a⟩) (eq_iv (brNF (pts_eq hn (Hk _ i1)) (Lk.mk ?_)))
    obtain ⟨x, hx, _⟩ := Hk third i3 (gap + shift) hsh
    refine view_run hf2 (Nat.le_trans hg hf2) hr0 hr1 (Lk.mk (view_run' (g := gap + shift) rfl hf3 (Nat.le_trans hsh hf3) hr0 hr1 (at_idxT hk' D.T hx (And.intro (by decide) ?_))))
    have h2 := lt_at hk
    have old : ∀ i, i < σ.length → (σ₂ ++ [MO.list (iv ff)])[i]? = σ[i]? := fun i hi => by
      rw [List.getElem?_append_left (by omega), old₂ i (by omega), old₁ i hi]
    have hx2 := Int.emod_nonneg x (show (2 : Int) ≠ 0 by decide)
    have hx3 := Int.emod_lt_of_pos x (show (0 : Int) < 2 by decide)
    refine tail2_run P (m := σ.length) (k := σ₁.length) (hr := hr) (fl := fl) (lo := lo) (bg := bg) (e0 := e0) (e1 := e1) (top := 9 - x % 2) (h0 := h0) (left := left) (v1 := .seq false (iv h1)) (far := far)
      hQ ?_ hbg (by omega) (by omega) hst (T2.app _) (F.keep fun i _ hi => old i hi) hk' hσ₁ D hlen ((old hr hhl).trans hh) (by rw [List.length_append]; omega)
    rfl
  refine go _ ?_
  have eg : (iv (h1 ++ left)).length = gap := by rw [iv_len, List.length_append, hgap]
  rw [← eg]
  rfl
end
end Mine
end

section
set_option autoImplicit false
namespace Mine
open PySem

noncomputable def e13 : T := (.ite (.cmp .eq (.var 60) (.lit (.int 1))) (.slice (.var 58) (.lit (.int 1)) (.var 15)) (.bin .add (.call 15 (.cons (.var 29) (.cons (.var 31) (.cons (.bin .sub (.idx (.var 44) (.lit (.int 0))) (.var 15)) .nil)))) (.slice (.var 58) (.lit .nul) (.var 15))))
noncomputable def e14 : T := (.ite (.cmp .eq (.var 61) (.lit (.int 1))) (.slice (.var 58) (.var 15) (.neg (.lit (.int 1)))) (.bin .add (.slice (.var 58) (.var 15) (.lit .nul)) (.call 15 (.cons (.var 29) (.cons (.var 31) (.cons (.bin .sub (.bin .add (.idx (.var 44) (.lit (.int 1))) (.var 15)) (.prim .len false (.cons (.var 58) .nil))) .nil))))))

structure CD (names cb cw ce core : List Int) (s spot r0 r1 : Nat) : Prop where
  pat : Pat core cb cw ce
  wn : ∀ l ∈ cw, l ∈ names
  w3 : cw.length ≤ 3
  sp : spot = cb.length + s
  sl : s ≤ cw.length
  s0 : cb = [] → ce = [] ∨ True
  h0 : spot ≤ r0
  h1 : core.length ≤ spot + r1
  r0 : r0 ≤ 4
  r1 : r1 ≤ 4
section
variable {names cb cw ce core : List Int} {s spot r0 r1 : Nat}
theorem CD.len (C : CD names cb cw ce core s spot r0 r1) : core.length = cb.length + cw.length + ce.length := by rw [C.pat.eq]; simp; omega
theorem CD.cb1 (C : CD names cb cw ce core s spot r0 r1) : cb.length ≤ 1 := by rcases C.pat.b with e | e <;> rw [e] <;> decide
theorem CD.ce1 (C : CD names cb cw ce core s spot r0 r1) : ce.length ≤ 1 := by rcases C.pat.e with e | e <;> rw [e] <;> decide
theorem CD.take (C : CD names cb cw ce core s spot r0 r1) : core.take spot = cb ++ cw.take s := by
  rw [C.pat.eq, C.sp, List.append_assoc, List.take_append]
  rw [List.take_of_length_le (by omega), show cb.length + s - cb.length = s by omega, List.take_append_of_le_length C.sl]
theorem CD.drop (C : CD names cb cw ce core s spot r0 r1) : core.drop spot = cw.drop s ++ ce := by
  rw [C.pat.eq, C.sp, List.append_assoc, List.drop_append]
  rw [List.drop_eq_nil_of_le (by omega), show cb.length + s - cb.length = s by omega, List.drop_append_of_le_length C.sl]; rfl
end

theorem many_len (k : Nat) (xs : List Int) : ((List.replicate k xs).flatten).length = k * xs.length := by
  induction k with
  | zero => simp
  | succ k ih => rw [List.replicate_succ, List.flatten_cons, List.length_append, ih, Nat.succ_mul]; omega
theorem mem_many {k : Nat} {xs : List Int} {x : Int} (h : x ∈ (List.replicate k xs).flatten) : x ∈ xs := by
  obtain ⟨l, hl, hx⟩ := List.mem_flatten.mp h
  rw [(List.mem_replicate.mp hl).2] at hx; exact hx

section
variable {n : Nat} {σ : St} {K : V → St → Prop}
noncomputable def HC (core names : List Int) (spot r0 r1 : Nat) : List (Nat × V) := [(58, .seq false (iv core)), (15, .int spot), (29, .ref 0), (31, .seq false (iv names)), (44, .seq true [.int r0, .int r1])]
theorem left_ev {names cb cw ce core : List Int} {s spot r0 r1 : Nat} (C : CD names cb cw ce core s spot r0 r1) {ρ : Rho} (hB : BoxAt σ 0) (hn : names.length = 3) (hρ : Has ρ ((60, .int cb.length) :: HC core names spot r0 r1))
    (k : ∀ xs σ', (∀ x ∈ xs, x ∈ names) → (cb = [0] → xs = []) → (cb = [] → xs.length = r0 - spot) → Bd 0 σ σ' → K (.seq false (iv (xs ++ cw.take s))) σ') : Ev e13 (runW prog (n + 2)) ρ σ K := by
  have hc0 := C.r0
  have hh0 := C.h0
  have ht := C.take
  refine hρ.go ?_
  rcases C.pat.b with e | e
  · rw [e, List.nil_append] at ht
    refine brF (by rw [e]; decide) (ix_seq (j := 0) rfl rfl (row_run hB hn (by omega) (by omega) fun xs σ' hxl hxn hb => sl_seq (CutI.ni rfl) ?_))
    have hxl : xs.length = r0 - spot := by omega
    rw [ht]
    have hs : (cw.take s).length ≤ 3 := Nat.le_trans (List.length_take_le' _ _) C.w3
    exact add_iv xs _ rfl rfl (by omega) (k xs σ' hxn (fun h => by rw [e] at h; cases h) (fun _ => hxl) hb)
  · have e2 : (core.take spot).drop 1 = [] ++ cw.take s := by rw [ht, e]; rfl
    refine brT (by rw [e]; decide) (sl_seq (CutI.ii (a := 1) rfl rfl) ?_)
    rw [e2]
    exact k [] σ nofun (fun _ => rfl) (fun h => by rw [e] at h; cases h) (.refl hB)
theorem right_ev {names cb cw ce core : List Int} {s spot r0 r1 : Nat} (C : CD names cb cw ce core s spot r0 r1) {ρ : Rho} (hB : BoxAt σ 0) (hn : names.length = 3) (hρ : Has ρ ((61, .int ce.length) :: HC core names spot r0 r1))
    (k : ∀ ys σ', (∀ x ∈ ys, x ∈ names) → (ce = [0] → ys = []) → (ce = [] → ys.length = r1 + spot - core.length) → Bd 0 σ σ' → K (.seq false (iv (cw.drop s ++ ys))) σ') : Ev e14 (runW prog (n + 2)) ρ σ K := by
  have hc0 := C.r0
  have hc1 := C.r1
  have hh0 := C.h0
  have hh1 := C.h1
  have hlen := C.len
  have hd := C.drop
  refine hρ.go ?_
  rcases C.pat.e with e | e
  · rw [e, List.append_nil] at hd
    refine brF (by rw [e]; decide) (sl_seq (CutI.in rfl) (ix_seq (j := 1) rfl rfl (row_run hB hn ?_ ?_ fun ys σ' hyl hyn hb => ?_)))
    · rw [iv_len]; omega
    · rw [iv_len]; omega
    have hyl : ys.length = r1 + spot - core.length := by rw [iv_len] at hyl; omega
    rw [hd]
    have hs : (cw.drop s).length ≤ 3 := Nat.le_trans (by rw [List.length_drop]; exact Nat.sub_le _ _) C.w3
    exact add_iv _ ys rfl rfl (by omega) (k ys σ' hyn (fun h => by rw [e] at h; cases h) (fun _ => hyl) hb)
  · have h1 : core.take (core.length - 1) = cb ++ cw := by
      have hx : core.length - 1 = (cb ++ cw).length := by rw [hlen, e, List.length_append]; rfl
      rw [hx, C.pat.eq, e, List.take_left]
    have e2 : (core.take (core.length - 1)).drop spot = cw.drop s ++ [] := by
      rw [h1, C.sp, ← List.drop_drop, List.drop_left, List.append_nil]
    refine brT (by rw [e]; decide) (sl_seq (CutI.im rfl) ?_)
    rw [e2]
    exact k [] σ nofun (fun _ => rfl) (fun h => by rw [e] at h; cases h) (.refl hB)

noncomputable def eRows (z : T) : T := .comp true 0 (.prim .range1 false (.cons (.lit (.int 2)) .nil)) (.call 15 (.cons (.var 56) (.cons (.var 31) (.cons (.bin .mul (.call 14 (.cons (.var 56) (.cons (.lit (.int 3)) .nil))) (.bin .sub (.lit (.int 1)) z)) .nil)))) (.lit (.bool true))
theorem rows_ev {names : List Int} {fb c : Nat} {z : T} {ρ : Rho} (hB : BoxAt σ fb) (hn : names.length = 3) (hc : c ≤ 1) (hz : ∀ v σ' (G : V → St → Prop), G (.int c) σ' → Ev z (runW prog (n + 2)) (upd ρ 0 v) σ' G) (hρ : Has ρ [(56, .ref fb), (31, .seq false (iv names))])
    (k : ∀ a b σ₁, (∀ l ∈ a, l ∈ names) → (∀ l ∈ b, l ∈ names) → a.length ≤ 2 → b.length ≤ 2 → (c = 1 → b = []) → Bd fb σ σ₁ → K (.ref σ.length) (σ₁ ++ [.list [.seq false (iv a), .seq false (iv b)]])) :
    Ev (eRows z) (runW prog (n + 2)) ρ σ K := by
  rw [← updL_self hρ] at hz ⊢
  refine And.intro rfl (ov_rng0 2 rfl (by decide) ?_)
  refine draw_comp (fun u => ∃ a : List Int, C4 (u = .seq false (iv a)) (∀ l ∈ a, l ∈ names) (a.length ≤ 2) (c = 1 → a = [])) (fun _ => trivial) (by decide) hB (fun _ _ _ g => g) (fun v σ' G _ hB' g => ?_) fun σ₁ xs hb hl hR => ?_
  · refine take_run hB' (by decide) (by decide) fun d σ₁ d0 d3 hb => hz _ _ _ ?_
    have hm : d * (1 - (c : Int)) = if c = 1 then 0 else d := by
      split
      · rename_i e; rw [e]; exact Int.mul_zero d
      · rename_i e; rw [show c = 0 by omega]; exact Int.mul_one d
    have hm3 : 0 ≤ d * (1 - (c : Int)) ∧ d * (1 - (c : Int)) < 3 := by rw [hm]; split <;> omega
    refine And.intro (by rw [word_of (by omega) (by omega)]; rfl) (row_run (hb.box hB') hn (by omega) (by omega) fun xs σ₂ hxl hxn hb' => g _ _ ⟨xs, rfl, hxn, by omega, fun e => ?_⟩ (hb.trans hb'))
    rw [hm, if_pos e] at hxl
    exact List.length_eq_zero_iff.mp hxl
  · have hl : xs.length = 2 := hl
    match xs, hl with
    | [u, v], _ =>
      obtain ⟨a, rfl, a1, a2, a3⟩ := hR u List.mem_cons_self
      obtain ⟨b, rfl, b1, b2, b3⟩ := hR v (List.mem_cons_of_mem _ List.mem_cons_self)
      exact k a b σ₁ a1 b1 a2 b2 b3 hb
end

section
variable {n : Nat} {σ : St} {Q : V → St → Prop}
noncomputable def HA (fb fl r0 r1 : Nat) (far : Bool) (names cb ce : List Int) : List (Nat × V) := [(57, .bool far), (56, .ref fb), (31, .seq false (iv names)), (60, .int cb.length), (61, .int ce.length), (37, .ref fl), (44, .seq true [.int r0, .int r1])]
noncomputable def HB (hr tr : Nat) (left right : List Int) : List (Nat × V) := [(62, .ref hr), (63, .ref tr), (20, .seq false (iv left)), (21, .seq false (iv right))]
theorem rep_iv' {m : Int} {xs : List V} {Q : V → Prop} (x : List Int) (b : Nat) (hx : xs = iv x) (hm : m = b) (hl : x.length * b ≤ 1000) (h : b < 1000) (q : Q (.seq false (iv ((List.replicate b x).flatten)))) : mulL xs m Q := by
  subst hx hm
  unfold mulL
  rw [Int.toNat_natCast, iv_len, rep_iv]
  exact ⟨⟨lim hl, Int.natCast_nonneg _, Int.ofNat_lt.mpr h⟩, q⟩
theorem far_run {names cb ce left right a b c d : List Int} {fb fl r0 r1 hr tr : Nat} {far : Bool} {ρ : Rho} (hB : BoxAt σ fb) (hn : names.length = 3) (hcb : cb = [] ∨ cb = [0]) (hce : ce = [] ∨ ce = [0]) (hρ : Has ρ (HB hr tr left right ++ HA fb fl r0 r1 far names cb ce)) (hht : hr ≠ tr) (hhf : hr ≠ fb) (htf : tr ≠ fb)
    (hh : σ[hr]? = some (.list [.seq false (iv a), .seq false (iv b)])) (ht : σ[tr]? = some (.list [.seq false (iv c), .seq false (iv d)])) (han : ∀ l ∈ a, l ∈ names) (hcn : ∀ l ∈ c, l ∈ names) (ha : a.length ≤ 2) (hc : c.length ≤ 2) (hlr : left.length + right.length ≤ 20)
    (k : ∀ ρ' a' c' σ', Has ρ' (HB hr tr left right ++ HA fb fl r0 r1 far names cb ce) → σ'[hr]? = some (.list [.seq false (iv a'), .seq false (iv b)]) → σ'[tr]? = some (.list [.seq false (iv c'), .seq false (iv d)]) → (∀ l ∈ a', l ∈ names) → (∀ l ∈ c', l ∈ names) →
      a'.length + left.length + right.length ≤ 63 → a'.length + left.length + right.length + c'.length ≤ 100 → BoxAt σ' fb → σ'.length = σ.length → (∀ j, j ≠ fb → j ≠ hr → j ≠ tr → σ'[j]? = σ[j]?) → Lk (Exs (drp 17 d26.2) (runW prog (n + 2)) ρ' σ' (RetQ Q))) :
    Lk (Exs (drp 16 d26.2) (runW prog (n + 2)) ρ σ (RetQ Q)) := by
  refine hρ.go (Lk.mk ?_)
  cases far with
  | false =>
    refine k _ a c σ ?_ hh ht han hcn (by omega) (by omega) hB rfl fun _ _ _ _ => rfl
    rfl
  | true =>
    refine row_run hB hn (by decide) (by decide) fun xs σ₁ hxl hxn hb => rep_iv' xs 13 rfl rfl ?_ (by decide) (Lk.mk ?_)
    · rw [show xs.length = 5 from hxl]; decide
    have hml : ((List.replicate 13 xs).flatten).length = 65 := by rw [many_len, show xs.length = 5 from hxl]
    have hmn : ∀ l ∈ (List.replicate 13 xs).flatten, l ∈ names := fun l hl => hxn l (mem_many hl)
    generalize (List.replicate 13 xs).flatten = many at *
    have h1 := (hb.at hhf).trans hh
    have t1 := (hb.at htf).trans ht
    rcases hcb with e | e
    · refine brT (by rw [e]; rfl) ?_
      refine add_iv left right rfl rfl (by omega) (sl_seq (CutI.ni (b := 63 - (left.length + right.length)) (by rw [iv_len, List.length_append]; omega)) (sl_seq (CutI.ni (b := 3) rfl) ?_))
      refine at_set h1 (j := 0) rfl (Nat.succ_pos _) ?_
      have t2 := get_set_ne (b := MO.list ([V.seq false (iv a), V.seq false (iv b)].set 0 (.seq false (iv (many.take (63 - (left.length + right.length))))))) t1 hht
      refine at_set t2 (j := 0) rfl (Nat.succ_pos _) ?_
      refine k _ (many.take (63 - (left.length + right.length))) (many.take 3) _ ?_ (get_set_ne (get_set_eq h1) (Ne.symm hht)) (get_set_eq t2) (fun l hl => hmn l (List.mem_of_mem_take hl)) (fun l hl => hmn l (List.mem_of_mem_take hl)) ?_ ?_ ?_ ?_ ?_
      · rfl
      · rw [List.length_take]; omega
      · rw [List.length_take, List.length_take]; omega
      · obtain ⟨p, q, e⟩ := hb.box hB
        exact ⟨p, q, get_set_ne (get_set_ne e hhf) htf⟩
      · rw [List.length_set, List.length_set, hb.len]
      · intro j j1 j2 j3
        rw [List.getElem?_set_ne (Ne.symm j3), List.getElem?_set_ne (Ne.symm j2), hb.at j1]
    · refine brF (by rw [e]; decide) ?_
      rcases hce with e' | e'
      · refine brT (by rw [e']; rfl) (at_set t1 (j := 0) rfl (Nat.succ_pos _) ?_)
        refine k _ a many _ ?_ (get_set_ne h1 (Ne.symm hht)) (get_set_eq t1) han hmn (by omega) (by omega) ?_ ?_ ?_
        · rfl
        · obtain ⟨p, q, e⟩ := hb.box hB
          exact ⟨p, q, get_set_ne e htf⟩
        · rw [List.length_set, hb.len]
        · intro j j1 j2 j3
          rw [List.getElem?_set_ne (Ne.symm j3), hb.at j1]
      · refine brF (by rw [e']; decide) ?_
        refine k _ a c σ₁ ?_ h1 t1 han hcn (by omega) (by omega) (hb.box hB) hb.len fun j j1 _ _ => hb.at j1
        rfl
end
end Mine
end

section
set_option autoImplicit false
namespace Mine
open PySem

structure LQ (names : List Int) (fs : Rows) (r0 r1 : Nat) : Prop where
  n3 : names.length = 3
  two : ∀ a, 2 ≤ (names.filter fun x => !decide (x = a)).length
  nm : ∀ l ∈ names, 1 ≤ l ∧ l ≤ 255
  ap : Apart names
  ok : FormsOK fs
  seven : ∀ f ds, (f, ds) ∈ fs → ∀ d ∈ ds, d ≤ 7
  few : fs.length ≤ 10
  reach : Reach fs r0 r1

theorem CD.left {names cb cw ce core : List Int} {s spot r0 r1 : Nat} (C : CD names cb cw ce core s spot r0 r1) {xs : List Int} (hx1 : cb = [0] → xs = []) (hx2 : cb = [] → xs.length = r0 - spot) : cb.length + (xs ++ cw.take s).length ≤ r0 ∧ (cb.length + (xs ++ cw.take s).length = r0 ∨ cb = [0]) := by
  have hsp := C.sp
  have hh0 := C.h0
  rw [List.length_append, List.length_take, Nat.min_eq_left C.sl]
  rcases C.pat.b with e | e
  · rw [hx2 e]
    have hc : cb.length = 0 := by rw [e]; rfl
    have : cb.length + (r0 - spot + s) = r0 := by omega
    exact ⟨Nat.le_of_eq this, .inl this⟩
  · rw [hx1 e]
    exact ⟨by rw [List.length_nil]; omega, .inr e⟩
theorem CD.right {names cb cw ce core : List Int} {s spot r0 r1 : Nat} (C : CD names cb cw ce core s spot r0 r1) {ys : List Int} (hy1 : ce = [0] → ys = []) (hy2 : ce = [] → ys.length = r1 + spot - core.length) : (cw.drop s ++ ys).length + ce.length ≤ r1 ∧ ((cw.drop s ++ ys).length + ce.length = r1 ∨ ce = [0]) := by
  have hsp := C.sp
  have hh1 := C.h1
  have hlen := C.len
  have hsl := C.sl
  rw [List.length_append, List.length_drop]
  rcases C.pat.e with e | e
  · rw [hy2 e]
    have hc : ce.length = 0 := by rw [e]; rfl
    have : cw.length - s + (r1 + spot - core.length) + ce.length = r1 := by omega
    exact ⟨Nat.le_of_eq this, .inl this⟩
  · rw [hy1 e]
    exact ⟨by rw [List.length_nil]; omega, .inr e⟩
theorem mem4 {a b c d names : List Int} (ha : ∀ l ∈ a, l ∈ names) (hb : ∀ l ∈ b, l ∈ names) (hc : ∀ l ∈ c, l ∈ names) (hd : ∀ l ∈ d, l ∈ names) : ∀ l ∈ a ++ b ++ c ++ d, l ∈ names := fun l hl =>
  (List.mem_append.mp hl).elim (fun hl => (List.mem_append.mp hl).elim (fun hl => (List.mem_append.mp hl).elim (ha l) (hb l)) (hc l)) (hd l)
theorem len4 (a b c d : List Int) : (a ++ b ++ c ++ d).length = a.length + b.length + c.length + d.length := by rw [List.length_append, List.length_append, List.length_append]
theorem lp_of {names : List Int} {fs : Rows} {r0 r1 : Nat} {cb ce L R a b c d third : List Int} {shift : Nat} (q : LQ names fs r0 r1) (hcb : cb = [] ∨ cb = [0]) (hce : ce = [] ∨ ce = [0]) (h0 : r0 ≤ 4) (h1 : r1 ≤ 4)
    (hL : cb.length + L.length ≤ r0 ∧ (cb.length + L.length = r0 ∨ cb = [0])) (hR : R.length + ce.length ≤ r1 ∧ (R.length + ce.length = r1 ∨ ce = [0])) (hLR : 0 < L.length + R.length) (hLn : ∀ l ∈ L, l ∈ names) (hRn : ∀ l ∈ R, l ∈ names)
    (han : ∀ l ∈ a, l ∈ names) (hbn : ∀ l ∈ b, l ∈ names) (hcn : ∀ l ∈ c, l ∈ names) (hdn : ∀ l ∈ d, l ∈ names) (hb2 : b.length ≤ 2) (hd2 : d.length ≤ 2) (hb0 : cb = [0] → b = []) (hd0 : ce = [0] → d = [])
    (h100 : a.length + L.length + R.length + c.length ≤ 100) (ht1 : (b ++ L ++ R ++ d).length + shift ≤ third.length) (ht2 : third.length ≤ (b ++ L ++ R ++ d).length + 1) (htn : ∀ l ∈ third, l ∈ names) :
    LP names fs r0 r1 (cb ++ L) (R ++ ce) (a ++ L ++ R ++ c) (b ++ L ++ R ++ d) third (b.length + L.length) shift := by
  have hsec := len4 b L R d
  have hfir := len4 a L R c
  have hin0 : L ++ R ≠ [] := fun e => by rw [← List.length_append, e] at hLR; exact Nat.lt_irrefl _ hLR
  have hshape : (cb ++ L) ++ (R ++ ce) = cb ++ (L ++ R) ++ ce := by simp only [List.append_assoc]
  have hlen : ((cb ++ L) ++ (R ++ ce)).length = (cb.length + L.length) + (R.length + ce.length) := by rw [List.length_append, List.length_append, List.length_append]
  have hpat : Pat ((cb ++ L) ++ (R ++ ce)) cb (L ++ R) ce := ⟨hshape, hcb, hce, hin0, fun l hl => q.nm l ((List.mem_append.mp hl).elim (hLn l) (hRn l)), by rw [hlen]; omega⟩
  have sec : 0 < (b ++ L ++ R ++ d).length ∧ (b ++ L ++ R ++ d).length ≤ 12 := by omega
  have gap : b.length + L.length ≤ (b ++ L ++ R ++ d).length := by omega
  have pos : ∀ {w : List Int}, 0 < w.length → w ≠ [] := fun h => List.length_pos_iff.mp h
  refine { nm := q.nm, ap := q.ap, ok := q.ok, seven := q.seven, few := q.few, reach := q.reach, h0 := h0, h1 := h1, seen := ?_, pat := ⟨_, _, _, hpat⟩, inn := ?_, f1 := ⟨pos (by omega), by omega, mem4 han hLn hRn hcn⟩, f2 := ⟨pos sec.1, Nat.le_trans sec.2 (by decide), mem4 hbn hLn hRn hdn⟩, f3 := ⟨pos (by omega), by omega, htn⟩, gapLe := gap, shiftLe := Nat.le_trans (Nat.add_le_add_right gap _) ht1, hsl := ?_, hsr := ?_ }
  · refine ⟨by rw [List.length_append]; exact hL.1, by rw [List.length_append]; exact hR.1, ?_, ?_, fun x hx => ?_⟩
    · rw [List.length_append]
      exact hL.2.imp id fun h => by rw [h]; rfl
    · rw [List.length_append]
      exact hR.2.imp id fun h => by rw [h, List.getLast?_append]; rfl
    · rcases List.mem_append.mp hx with h | h
      · rcases hcb with e | e <;> rw [e] at h
        · cases h
        · rw [List.mem_singleton.mp h]; decide
      · exact Int.le_trans (by decide) (q.nm x (hLn x h)).1
  · have ne0 : ∀ {x : Int}, 1 ≤ x → some x ≠ some 0 := fun h e => by cases e; exact absurd h (by decide)
    obtain ⟨x, hx, hx'⟩ := hpat.first
    obtain ⟨y, hy, hy'⟩ := hpat.last
    rw [mem_innerL, List.head?_eq_getElem?, hx, hy, hlen, List.length_append]
    refine ⟨Int.natCast_nonneg _, Int.ofNat_le.mpr (Nat.le_add_right _ _), ?_, ?_⟩
    · rcases hx' with ⟨_, h⟩ | ⟨h, _⟩
      · left; rw [h]; exact Int.ofNat_lt.mpr (Nat.add_pos_left (Nat.succ_pos _) _)
      · exact .inr (ne0 h)
    · rcases hy' with ⟨_, h⟩ | ⟨h, _⟩
      · left; rw [h]; exact Int.ofNat_lt.mpr (Nat.lt_add_of_pos_right (Nat.add_pos_right _ (Nat.succ_pos _)))
      · exact .inr (ne0 h)
  · rw [LL_eq gap, List.append_assoc (b ++ L), ← List.length_append, List.take_left]
    rcases hcb with h | h
    · rw [h]; exact ⟨0 :: b, rfl⟩
    · rw [h, hb0 h]; exact ⟨[], rfl⟩
  · rw [RR_eq gap, List.append_assoc (b ++ L), ← List.length_append, List.drop_left]
    rcases hce with h | h
    · rw [h]; exact ⟨d ++ [0], by rw [List.append_nil, List.append_assoc]⟩
    · rw [h, hd0 h]; exact ⟨[], by rw [List.append_nil, List.append_nil]⟩
end Mine
end

section
set_option autoImplicit false
namespace Mine
open PySem

theorem edge_len {cb : List Int} {Q : V → Prop} (h : cb = [] ∨ cb = [0]) (q : Q (.seq false (iv cb))) : mulL [.int 0] (cb.length : Int) Q := by
  rcases h with rfl | rfl
  · exact mul_iv 0 0 rfl rfl (by decide) q
  · exact mul_iv 0 1 rfl rfl (by decide) q
theorem place3 {σ : St} {len : Nat} {t k : Int} {Q : V → Prop} (k0 : 0 ≤ k) (k3 : k < 3) (t0 : 0 ≤ t) (t1 : t < len) (q : ∀ p : Nat, p < len → Q (.int p)) : indexW σ (.seq false [.int 0, .int ((len : Int) - 1), .int t]) (.int k) Q := by
  obtain ⟨tn, rfl⟩ := Int.eq_ofNat_of_zero_le t0
  have t1 := Int.ofNat_lt.mp t1
  have : k = 0 ∨ k = 1 ∨ k = 2 := by omega
  rcases this with rfl | rfl | rfl
  · exact ix_seq (j := 0) rfl rfl (q 0 (Nat.lt_of_le_of_lt (Nat.zero_le _) t1))
  · refine ix_seq (j := 1) rfl rfl ?_
    rw [show (len : Int) - 1 = (len - 1 : Nat) by omega]
    exact q _ (Nat.sub_lt (Nat.lt_of_le_of_lt (Nat.zero_le _) t1) (by decide))
  · exact ix_seq (j := 2) rfl rfl (q tn t1)
noncomputable def ends8 : List (Int × Int) := [(1, 1), (1, 1), (2, 1), (1, 2), (0, -4), (2, 3), (1, 62), (100000000000000000000, 1)]
theorem ends_at {σ : St} {k : Int} {Q : V → Prop} (k0 : 0 ≤ k) (k8 : k < 8) (q : ∀ e0 e1 : Int, Q (.seq true [.int e0, .int e1])) : indexW σ (.seq false (ends8.map fun p => .seq true [.int p.1, .int p.2])) (.int k) Q := by
  obtain ⟨i, rfl⟩ := Int.eq_ofNat_of_zero_le k0
  have hi : i < ends8.length := Int.ofNat_lt.mp k8
  refine ix_seq (j := i) ?_ rfl (q ends8[i].1 ends8[i].2)
  rw [List.getElem?_map, List.getElem?_eq_getElem hi]; rfl
theorem shape_at {cb ce L R : List Int} (hcb : cb = [] ∨ cb = [0]) (hce : ce = [] ∨ ce = [0]) {p : Nat} {x : Int} (hx : ((cb ++ L) ++ (R ++ ce))[p]? = some x) (h0 : x ≠ 0) : cb.length ≤ p ∧ p < cb.length + (L.length + R.length) := by
  have e : (cb ++ L) ++ (R ++ ce) = cb ++ ((L ++ R) ++ ce) := by simp only [List.append_assoc]
  rw [e] at hx
  have edge : ∀ {u : List Int} {i : Nat}, u = [] ∨ u = [0] → u[i]? = some x → False := fun h hi => by
    have hm := List.mem_of_getElem? hi
    rcases h with h | h <;> rw [h] at hm
    · cases hm
    · exact h0 (List.mem_singleton.mp hm)
  have h1 : cb.length ≤ p := Nat.le_of_not_lt fun hlt => edge hcb (by rw [List.getElem?_append_left hlt] at hx; exact hx)
  refine ⟨h1, Nat.lt_of_not_le fun hle => ?_⟩
  rw [List.getElem?_append_right h1, List.getElem?_append_right (by rw [List.length_append]; omega)] at hx
  exact edge hce hx

section
variable {n : Nat} {σ : St} {Q : V → St → Prop}
theorem headB1_run {names : List Int} {fs : Rows} {r0 r1 : Nat} {cb ce L R a b c d : List Int} {fb lo fl hr tr : Nat} {far : Bool} {ρ : Rho} (hQ : ∀ σ, Q (.bool true) σ) (hρ : Has ρ (HB hr tr L R ++ HA fb fl r0 r1 far names cb ce))
    (n3 : names.length = 3) (two : ∀ a, 2 ≤ (names.filter fun x => !decide (x = a)).length) (hcb : cb = [] ∨ cb = [0]) (hce : ce = [] ∨ ce = [0]) (hLl : L.length ≤ 7) (hRl : R.length ≤ 7) (hLR : 0 < L.length + R.length) (hLn : ∀ l ∈ L, l ∈ names) (hRn : ∀ l ∈ R, l ∈ names)
    (han : ∀ l ∈ a, l ∈ names) (hbn : ∀ l ∈ b, l ∈ names) (hcn : ∀ l ∈ c, l ∈ names) (hdn : ∀ l ∈ d, l ∈ names) (hb2 : b.length ≤ 2) (hd2 : d.length ≤ 2) (hb0 : cb = [0] → b = [])
    (h63 : a.length + L.length + R.length ≤ 63) (h100 : a.length + L.length + R.length + c.length ≤ 100)
    (lp : ∀ (third : List Int) (shift : Nat), (b ++ L ++ R ++ d).length + shift ≤ third.length → third.length ≤ (b ++ L ++ R ++ d).length + 1 → (∀ l ∈ third, l ∈ names) → LP names fs r0 r1 (cb ++ L) (R ++ ce) (a ++ L ++ R ++ c) (b ++ L ++ R ++ d) third (b.length + L.length) shift)
    (hB : BoxAt σ fb) (hfb : fb < lo) (F : FormsAt lo σ fl fs) (hlo : lo ≤ σ.length) (hh : σ[hr]? = some (.list [.seq false (iv a), .seq false (iv b)])) (ht : σ[tr]? = some (.list [.seq false (iv c), .seq false (iv d)])) (hhf : hr ≠ fb) :
    Lk (Exs (drp 17 d26.2) (runW prog (n + 6)) ρ σ (RetQ Q)) := by
  have lb : ∀ {e : List Int}, e = [] ∨ e = [0] → e.length ≤ 1 := fun h => h.elim (fun h => h ▸ Nat.zero_le _) fun h => h ▸ Nat.le_refl _
  have hcb1 := lb hcb
  have hce1 := lb hce
  have h2l := len4 b L R d
  have h2n := mem4 hbn hLn hRn hdn
  have hsl : ((cb ++ L) ++ (R ++ ce)).length = cb.length + L.length + R.length + ce.length := by rw [← List.append_assoc, len4]
  have hat := @shape_at cb ce L R hcb hce
  -- the words
  refine hρ.go (Lk.mk (ix_list hh (j := 0) rfl rfl (add_iv a L rfl rfl (by omega) (add_iv _ R rfl rfl (by rw [List.length_append]; omega) (ix_list ht (j := 0) rfl rfl (add_iv _ c rfl rfl (by rw [List.length_append, List.length_append]; omega) ?_))))))
  refine ix_list hh (j := 1) rfl rfl (add_iv b L rfl rfl (by omega) (add_iv _ R rfl rfl (by rw [List.length_append]; omega) (ix_list ht (j := 1) rfl rfl (add_iv _ d rfl rfl (by rw [List.length_append, List.length_append]; omega) (And.intro (ll rfl) (Lk.mk ?_))))))
  -- the pattern more, the short word
  refine And.intro (ll rfl) (edge_len hcb (add_iv cb L rfl rfl (by omega) (add_iv _ R rfl rfl (by rw [List.length_append]; omega) (And.intro (ll rfl) (edge_len hce (add_iv _ ce rfl rfl (by rw [List.length_append, List.length_append]; omega) (slice63 (And.intro (ll rfl) ?_))))))))
  rw [List.append_assoc (cb ++ L)]
  generalize hshape : (cb ++ L) ++ (R ++ ce) = shape at *
  have go : ∀ ρ, Has ρ ((41, .seq false (iv shape)) :: (65, .seq false (iv ((a ++ L ++ R ++ c).take 63))) :: (23, .seq false (iv (a ++ L ++ R ++ c))) :: (64, .seq false (iv (b ++ L ++ R ++ d))) :: (HB hr tr L R ++ HA fb fl r0 r1 far names cb ce)) → Lk (Exs (drp 19 d26.2) (runW prog (n + 6)) ρ σ (RetQ Q)) := by
    intro ρ hρ
    generalize b ++ L ++ R ++ d = second at *
    have hfl : a.length + L.length ≤ ((a ++ L ++ R ++ c).take 63).length := by rw [List.length_take, len4]; omega
    generalize a ++ L ++ R ++ c = first at *
    have hsm : ((iv shape).length : Int) = (shape.length : Nat) := by rw [iv_len]
    -- the place
    refine hρ.go (Lk.mk (take_run hB (by omega) (by omega) fun t σ₁ t0 t1 b1 => And.intro (ll rfl) (take_run (b1.box hB) (by decide) (by decide) fun k σ₂ k0 k3 b2 => place3 k0 k3 t0 t1 fun p hpl => Lk.mk ?_)))
    rw [iv_len] at hpl
    have b12 := b1.trans b2
    have hB2 := b12.box hB
    -- the third word
    refine ix_list ((b12.at hhf).trans hh) (j := 1) rfl rfl (turned_run hB2 n3 two (by omega) h2n (Int.natCast_nonneg _) (List.getElem?_eq_getElem hpl) (fun hne => ?_) fun third shift σ₃ ht1 ht2 htn b3 => Lk.mk ?_)
    · have := hat (List.getElem?_eq_getElem hpl) hne
      rw [h2l, iv_len]
      rcases hcb with e | e
      · have : cb.length = 0 := by rw [e]; rfl
        omega
      · have : cb.length = 1 := by rw [e]; rfl
        have : b.length = 0 := by rw [hb0 e]; rfl
        omega
    have b13 := b12.trans b3
    -- the ends
    refine And.intro (ll rfl) (And.intro (ll rfl) (And.intro (ll rfl) (And.intro (ll rfl) (And.intro (ll rfl) (And.intro (ll rfl) (And.intro (ll rfl) (And.intro (ll rfl) (And.intro (ll rfl) ?_))))))))
    refine take_run (b13.box hB) (by decide) (by decide) fun k σ₄ k0 k8 b4 => ends_at k0 k8 fun e0 e1 => ?_
    have b14 := b13.trans b4
    subst hshape
    refine tail1_run (lp third shift ht1 ht2 htn) (hr := hr) (fl := fl) (lo := lo) (bg := cb.length) (e0 := e0) (e1 := e1) (h0 := a) (h1 := b) (left := L) (far := far) hQ ?_ (by rw [List.length_append]) hfl rfl (F.keep fun i hi _ => b14.at (Nat.ne_of_gt (Nat.lt_of_lt_of_le hfb hi))) ((b14.at hhf).trans hh) (b14.len.symm ▸ hlo)
    rfl
  refine go _ ?_
  rfl
end
end Mine
end

section
set_option autoImplicit false
namespace Mine
open PySem

theorem st_assign {y : Nat} {e : T} {s : TS} {r : TSs} {cal : PC} {ρ : Rho} {σ : St} {Q : Fl → Rho → St → Prop} (h : Ev e cal ρ σ fun v σ₁ => Lk (Exs (.cons s r) cal (upd ρ y v) σ₁ Q)) : Lk (Exs (.cons (.assign y e) (.cons s r)) cal ρ σ Q) := ⟨h⟩
section
variable {n : Nat} {σ : St} {Q : V → St → Prop}
noncomputable def HD (fb fl r0 r1 spot : Nat) (far : Bool) (names core : List Int) : List (Nat × V) := [(57, .bool far), (56, .ref fb), (31, .seq false (iv names)), (58, .seq false (iv core)), (15, .int spot), (29, .ref 0), (37, .ref fl), (44, .seq true [.int r0, .int r1])]
theorem headB0_run {names : List Int} {fs : Rows} {r0 r1 : Nat} {cb cw ce core : List Int} {s spot : Nat} (q : LQ names fs r0 r1) (C : CD names cb cw ce core s spot r0 r1)
    {fb lo fl : Nat} {far : Bool} {ρ : Rho} (hQ : ∀ σ, Q (.bool true) σ) (hρ : Has ρ (HD fb fl r0 r1 spot far names core)) (hB0 : BoxAt σ 0) (hB : BoxAt σ fb) (h0lo : 0 < lo) (hfb : fb < lo) (F : FormsAt lo σ fl fs) (hlo : lo ≤ σ.length) :
    Lk (Exs (drp 11 d26.2) (runW prog (n + 6)) ρ σ (RetQ Q)) := by
  obtain ⟨x, hx, hx'⟩ := C.pat.first
  obtain ⟨y, hy, hy'⟩ := C.pat.last
  refine hρ.go (Lk.mk (ix_iv hx rfl (ix_ivlast hy (And.intro (ll rfl) ?_))))
  have e60 : (if decide (x = 0) = true then (1 : Int) else 0) = (cb.length : Nat) := by
    rcases hx' with ⟨h, e⟩ | ⟨h, e⟩
    · rw [decide_eq_true h, e]; rfl
    · rw [decide_eq_false (by omega), e]; rfl
  have e61 : (if decide (y = 0) = true then (1 : Int) else 0) = (ce.length : Nat) := by
    rcases hy' with ⟨h, e⟩ | ⟨h, e⟩
    · rw [decide_eq_true h, e]; rfl
    · rw [decide_eq_false (by omega), e]; rfl
  have go : ∀ ρ, Has ρ ((60, .int (cb.length : Nat)) :: (61, .int (ce.length : Nat)) :: HD fb fl r0 r1 spot far names core) → Lk (Exs (drp 12 d26.2) (runW prog (n + 6)) ρ σ (RetQ Q)) := by
    intro ρ hρ
    refine hρ.go (st_assign (left_ev (n := n + 4) C hB0 q.n3 ?_ fun xs σ₁ hxn hx1 hx2 b1 => st_assign (right_ev (n := n + 4) C (b1.box hB0) q.n3 ?_ fun ys σ₂ hyn hy1 hy2 b2 => ?_)))
    · rfl
    · rfl
    have hL := C.left hx1 hx2
    have hR := C.right hy1 hy2
    have hLn : ∀ l ∈ xs ++ cw.take s, l ∈ names := fun l hl => (List.mem_append.mp hl).elim (hxn l) fun h => C.wn l (List.mem_of_mem_take h)
    have hRn : ∀ l ∈ cw.drop s ++ ys, l ∈ names := fun l hl => (List.mem_append.mp hl).elim (fun h => C.wn l (List.mem_of_mem_drop h)) (hyn l)
    have hLR : 0 < (xs ++ cw.take s).length + (cw.drop s ++ ys).length := by
      have := List.length_pos_iff.mpr C.pat.ne
      have := C.sl
      rw [List.length_append, List.length_append, List.length_take, List.length_drop]; omega
    clear hxn hx1 hx2 hyn hy1 hy2
    generalize xs ++ cw.take s = L at *
    generalize cw.drop s ++ ys = R at *
    have hr0 := C.r0
    have hr1 := C.r1
    have hLl : L.length ≤ 7 := Nat.le_trans (Nat.le_add_left _ _) (Nat.le_trans hL.1 (Nat.le_trans hr0 (by decide)))
    have hRl : R.length ≤ 7 := Nat.le_trans (Nat.le_add_right _ _) (Nat.le_trans hR.1 (Nat.le_trans hr1 (by decide)))
    have b12 := b1.trans b2
    have hBf := b12.box' hB0 hB
    have hl2 := b12.len
    refine st_assign (rows_ev (n := n + 4) (z := .var 60) (c := cb.length) hBf q.n3 C.cb1 (fun v σ' G g => g) ?_ fun a b σ₃ han hbn ha2 hb2 hb0 b3 => ?_)
    · rfl
    refine st_assign (rows_ev (n := n + 4) (z := .var 61) (c := ce.length) ((b3.box hBf).old _) q.n3 C.ce1 (fun v σ' G g => g) ?_ fun c d σ₄ hcn hdn hc2 hd2 hd0 b4 => ?_)
    · rfl
    obtain ⟨σ₅, b5, rfl⟩ := b4.app (b3.len.symm ▸ hBf.lt)
    have b34 := b3.trans b5
    have hl5 : σ₅.length = σ.length := b34.len.trans hl2
    have ht : (σ₅ ++ [MO.list [.seq false (iv a), .seq false (iv b)]] ++ [MO.list [.seq false (iv c), .seq false (iv d)]])[(σ₃ ++ [MO.list [V.seq false (iv a), V.seq false (iv b)]]).length]? = some (.list [.seq false (iv c), .seq false (iv d)]) := by
      rw [show (σ₃ ++ [MO.list [V.seq false (iv a), V.seq false (iv b)]]).length = (σ₅ ++ [MO.list [V.seq false (iv a), V.seq false (iv b)]]).length by rw [List.length_append, List.length_append, b5.len]]
      exact get_last _ _
    have hh : (σ₅ ++ [MO.list [.seq false (iv a), .seq false (iv b)]] ++ [MO.list [.seq false (iv c), .seq false (iv d)]])[σ₂.length]? = some (.list [.seq false (iv a), .seq false (iv b)]) := by
      rw [← b34.len]; exact get_old (get_last _ _)
    have hlt : (σ₃ ++ [MO.list [V.seq false (iv a), V.seq false (iv b)]]).length = σ.length + 1 := by rw [List.length_append, b3.len, hl2]; rfl
    refine far_run (n := n + 4) (left := L) (right := R) (cb := cb) (ce := ce) (far := far) (fl := fl) (r0 := r0) (r1 := r1) (((b34.box hBf).old _).old _) q.n3 C.pat.b C.pat.e ?_ (by rw [hlt, hl2]; omega) (by omega) (by omega) hh ht han hcn ha2 hc2 (by omega) fun ρ' a' c' σ₆ hρ' hh6 ht6 han' hcn' h63 h100 hB6 hl6 old6 => ?_
    · rfl
    refine headB1_run (n := n) hQ hρ' q.n3 q.two C.pat.b C.pat.e hLl hRl hLR hLn hRn han' hbn hcn' hdn hb2 hd2 (fun e => hb0 (by rw [e]; rfl)) h63 h100
      (fun third shift h1 h2 h3 => lp_of q C.pat.b C.pat.e hr0 hr1 hL hR hLR hLn hRn han' hbn hcn' hdn hb2 hd2 (fun e => hb0 (by rw [e]; rfl)) (fun e => hd0 (by rw [e]; rfl)) h100 h1 h2 h3) hB6 hfb (F.keep fun i hi hil => ?_) ?_ hh6 ht6 (by omega)
    · rw [old6 i (by omega) (by omega) (by omega), List.getElem?_append_left (by rw [List.length_append]; omega), List.getElem?_append_left (by omega), b34.at (by omega), b12.at (by omega)]
    · rw [hl6, List.length_append, List.length_append]; omega
  refine go _ ?_
  rw [← e60, ← e61]
  rfl
end
end Mine
end

section
set_option autoImplicit false
namespace Mine
open PySem

noncomputable def firstSet (fs : Rows) (k : Nat) (v : Int) : Rows := match fs with | [] => [] | x :: r => (x.1, x.2.set k v) :: r
theorem mem_firstSet {core ds : List Int} {rest : Rows} {k : Nat} {v : Int} {f ds' : List Int} (h : (f, ds') ∈ firstSet ((core, ds) :: rest) k v) : (f = core ∧ ds' = ds.set k v) ∨ (f, ds') ∈ rest := by
  rcases List.mem_cons.mp h with h | h
  · simp only [Prod.mk.injEq] at h; exact .inl h
  · exact .inr h
theorem NF.firstSet {names : List Int} {core ds : List Int} {rest : Rows} {k : Nat} {v : Int} (h : NF names ((core, ds) :: rest)) (v0 : 0 ≤ v) (v7 : v ≤ 7) : NF names (Mine.firstSet ((core, ds) :: rest) k v) where
  pat f ds' hm := by
    rcases mem_firstSet hm with ⟨rfl, rfl⟩ | hm
    · obtain ⟨a, b, c⟩ := h.pat _ _ List.mem_cons_self
      refine ⟨a, by rw [List.length_set]; exact b, fun d hd => ?_⟩
      rcases List.mem_or_eq_of_mem_set hd with hd | rfl
      · exact c d hd
      · exact ⟨v0, v7⟩
    · exact h.pat f ds' (List.mem_cons_of_mem _ hm)
  apart i j f d1 d2 hi hj := by
    have one : ∀ (i : Nat) (d : List Int), (Mine.firstSet ((core, ds) :: rest) k v)[i]? = some (f, d) → ∃ d', ((core, ds) :: rest)[i]? = some (f, d') := fun i d hi => by
      cases i with
      | zero =>
        simp only [Mine.firstSet, List.getElem?_cons_zero, Option.some.injEq, Prod.mk.injEq] at hi
        exact ⟨ds, by simp [hi.1]⟩
      | succ i => exact ⟨d, hi⟩
    obtain ⟨a, ha⟩ := one i d1 hi
    obtain ⟨b, hb⟩ := one j d2 hj
    exact h.apart i j f a b ha hb
theorem NF.ok {names : List Int} {fs : Rows} (h : NF names fs) (hf : fs.length ≤ 10) : FormsOK fs where
  pat f ds hm := by
    obtain ⟨⟨b, w, e, hp, _, _⟩, hl, hd⟩ := h.pat f ds hm
    exact ⟨⟨b, w, e, hp⟩, hl, fun d hd' => by have := hd d hd'; omega⟩
  apart := h.apart
  few := by omega
theorem names_two {names : List Int} (h : names = [97, 98, 99] ∨ names = [1, 255, 97]) (a : Int) : 2 ≤ (names.filter fun x => !decide (x = a)).length := by
  rcases h with rfl | rfl
  · by_cases h1 : a = 97
    · subst h1; decide
    · by_cases h2 : a = 98
      · subst h2; decide
      · have e1 : ¬ (97 : Int) = a := fun q => h1 q.symm
        have e2 : ¬ (98 : Int) = a := fun q => h2 q.symm
        simp [List.filter_cons, e1, e2]
  · by_cases h1 : a = 1
    · subst h1; decide
    · by_cases h2 : a = 255
      · subst h2; decide
      · have e1 : ¬ (1 : Int) = a := fun q => h1 q.symm
        have e2 : ¬ (255 : Int) = a := fun q => h2 q.symm
        simp [List.filter_cons, e1, e2]


theorem inner_first {core cb cw ce : List Int} (h : Pat core cb cw ce) : ((cb.length : Nat) : Int) ∈ innerL core := by
  have hw := List.length_pos_iff.mpr h.ne
  have hlen := h.lens
  obtain ⟨x, hx, hx'⟩ := h.first
  rw [mem_innerL, List.head?_eq_getElem?, hx]
  refine ⟨Int.natCast_nonneg _, by omega, ?_, .inl (by omega)⟩
  rcases hx' with ⟨_, e⟩ | ⟨a, e⟩
  · left; rw [e]; decide
  · right; intro e; cases e; exact absurd a (by decide)
theorem inner_split {core cb cw ce : List Int} (h : Pat core cb cw ce) {k : Int} (hk : k ∈ innerL core) : (cb.length : Nat) ≤ k ∧ k ≤ (cb.length + cw.length : Nat) := by
  have hlen := h.lens
  obtain ⟨x, hx, hx'⟩ := h.first
  obtain ⟨y, hy, hy'⟩ := h.last
  rw [mem_innerL, List.head?_eq_getElem?, hx, hy] at hk
  obtain ⟨k0, k1, k2, k3⟩ := hk
  constructor
  · rcases hx' with ⟨a, e⟩ | ⟨a, e⟩
    · rw [e]; exact k2.resolve_right fun h => h (by rw [a])
    · rw [e]; exact k0
  · rcases hy' with ⟨a, e⟩ | ⟨a, e⟩
    · have := k3.resolve_right fun h => h (by rw [a])
      have : ce.length = 1 := by rw [e]; rfl
      omega
    · have : ce.length = 0 := by rw [e]; rfl
      omega
theorem names_at {σ : St} {c : Prop} [Decidable c] {Q : V → Prop} (q : ∀ names : List Int, names = [97, 98, 99] ∨ names = [1, 255, 97] → Q (.seq false (iv names))) : indexW σ (.seq false [.seq false [.int 97, .int 98, .int 99], .seq false [.int 1, .int 255, .int 97]]) (.int (if decide c = true then 1 else 0)) Q := by
  by_cases h : c
  · rw [decide_eq_true h]; exact ix_seq (j := 1) rfl rfl (q [1, 255, 97] (.inr rfl))
  · rw [decide_eq_false h]; exact ix_seq (j := 0) rfl rfl (q [97, 98, 99] (.inl rfl))

section
variable {n : Nat} {Q : V → St → Prop}
theorem head6_run {names : List Int} {core ds : List Int} {fs : Rows} {k fb : Nat} {far : Bool} {σ : St} {ρ : Rho} (hQ : ∀ σ, Q (.bool true) σ) (hn3 : names.length = 3) (two : ∀ a, 2 ≤ (names.filter fun x => !decide (x = a)).length) (hn255 : ∀ l ∈ names, 1 ≤ l ∧ l ≤ 255) (hap : Apart names)
    (FF : FR σ k ((core, ds) :: fs)) (N : NF names ((core, ds) :: fs)) (hfl : fs.length + 1 ≤ 10) (hB0 : BoxAt σ 0) (hBf : BoxAt σ fb) (hk0 : 0 < k) (hfb : fb < k)
    (hρ : Has ρ [(57, .bool far), (56, .ref fb), (31, .seq false (iv names)), (29, .ref 0), (37, .ref k)]) : Lk (Exs (drp 6 d26.2) (runW prog (n + 6)) ρ σ (RetQ Q)) := by
  obtain ⟨items, g1, g2, g3, g4⟩ := FF
  obtain ⟨r, hr, hkr, hrd⟩ := g3 0 core ds rfl
  obtain ⟨⟨cb, cw, ce, hp, hwn, hw3⟩, hdl, hd7⟩ := N.pat core ds List.mem_cons_self
  have hin0 := inner_first hp
  have hgl : 0 < (innerL core).length := List.length_pos_of_mem hin0
  have hgl2 : (innerL core).length ≤ 64 := Nat.le_trans (List.length_filter_le _ _) (by rw [length_rangeI]; exact Nat.succ_le_succ hp.short)
  -- core, numbers, gaps, spot
  refine hρ.go (Lk.mk (ix_list g1 hr rfl (Lk.mk (gaps_run hp (Lk.mk ?_)))))
  refine take_run hB0 (by rw [iv_len]; exact Int.ofNat_lt.mpr hgl) (by rw [iv_len]; omega) fun t σ₄ t0 t1 b4 => ?_
  rw [iv_len] at t1
  have ht : t.toNat < (innerL core).length := by omega
  refine ix_iv (List.getElem?_eq_getElem ht) (Int.toNat_of_nonneg t0).symm (Lk.mk ?_)
  have hspm : (innerL core)[t.toNat] ∈ innerL core := List.getElem_mem _
  generalize (innerL core)[t.toNat] = sp at *
  obtain ⟨sp1, sp2⟩ := inner_split hp hspm
  obtain ⟨spot, rfl⟩ := Int.eq_ofNat_of_zero_le (Int.le_trans (Int.natCast_nonneg _) sp1)
  have sp1 := Int.ofNat_le.mp sp1
  have sp2 := Int.ofNat_le.mp sp2
  have hlen := hp.lens
  have hB04 := b4.box hB0
  -- its number
  refine take_run hB04 (by decide) (by decide) fun u σ₅ u0 u7 b5 => ?_
  have b45 := b4.trans b5
  have ne0 : ∀ {i : Nat}, k ≤ i → i ≠ 0 := fun h => Nat.ne_of_gt (Nat.lt_of_lt_of_le hk0 h)
  have hr5 := (b45.at (ne0 (Nat.le_of_lt hkr))).trans hrd
  refine at_set hr5 (j := spot) rfl (by rw [iv_len]; omega) (Lk.mk ?_)
  rw [iv_set]
  have N' := N.firstSet (k := spot) (v := 1 + u) (by omega) (by omega)
  have F' : FormsAt k (σ₅.set r (.list (iv (ds.set spot (1 + u))))) k (firstSet ((core, ds) :: fs) spot (1 + u)) := by
    refine ⟨Nat.le_refl _, items, get_set_ne ((b45.at (ne0 (Nat.le_refl _))).trans g1) (Nat.ne_of_gt hkr), g2, fun i f ds' hi => ?_⟩
    cases i with
    | zero =>
      cases hi
      exact ⟨_, hr, .inr ⟨r, rfl, Nat.le_of_lt hkr, get_set_eq hr5⟩⟩
    | succ i =>
      obtain ⟨r', hr', hkr', hrd'⟩ := g3 (i + 1) f ds' hi
      refine ⟨_, hr', .inr ⟨r', rfl, Nat.le_of_lt hkr', get_set_ne ((b45.at (ne0 (Nat.le_of_lt hkr'))).trans hrd') ?_⟩⟩
      rintro rfl
      exact absurd (g4 0 (i + 1) _ _ r hr hr') (Nat.ne_of_lt (Nat.succ_pos _))
  have ok' := N'.ok hfl
  have box : ∀ {b : Nat}, b < k → BoxAt σ b → BoxAt (σ₅.set r (.list (iv (ds.set spot (1 + u))))) b := fun {b} hb h => by
    obtain ⟨p, q, e⟩ := b5.box' hB04 (b4.box' hB0 h)
    exact ⟨p, q, get_set_ne e (Nat.ne_of_gt (Nat.lt_trans hb hkr))⟩
  have hl6 : k ≤ (σ₅.set r (.list (iv (ds.set spot (1 + u))))).length := let ⟨_, its, e, _, _⟩ := F'; Nat.le_of_lt (lt_at e)
  have hcm : (core, ds.set spot (1 + u)) ∈ firstSet ((core, ds) :: fs) spot (1 + u) := List.mem_cons_self
  have hval : 0 < (ds.set spot (1 + u)).getD (spot : Int).toNat 0 := by
    rw [Int.toNat_natCast, getD_set (by omega), if_pos rfl]; omega
  have hl10 : (firstSet ((core, ds) :: fs) spot (1 + u)).length ≤ 10 := hfl
  generalize firstSet ((core, ds) :: fs) spot (1 + u) = fs' at *
  generalize σ₅.set r (.list (iv (ds.set spot (1 + u)))) = σ₆ at *
  -- how far
  refine reach_run (n := n + 4) (B := 4) F' ok' (fun f ds' hm k' hk' => ?_) fun r0 r1 hR hr0 hr1 => ?_
  · obtain ⟨⟨b', w', e', hp', _, hw3'⟩, _, _⟩ := N'.pat f ds' hm
    obtain ⟨q1, q2⟩ := inner_split hp' hk'
    have hlen' := hp'.lens
    have hb1 : b'.length ≤ 1 := by rcases hp'.b with e | e <;> rw [e] <;> decide
    have he1 : e'.length ≤ 1 := by rcases hp'.e with e | e <;> rw [e] <;> decide
    omega
  have hreach := hR core _ hcm (spot : Int) hspm hval
  have C : CD names cb cw ce core (spot - cb.length) spot r0 r1 := ⟨hp, hwn, hw3, by omega, by omega, fun _ => .inr trivial, by omega, by omega, hr0, hr1⟩
  have q : LQ names fs' r0 r1 := ⟨hn3, two, hn255, hap, ok', fun f ds' hm d hd => ((N'.pat f ds' hm).2.2 d hd).2, hl10, hR⟩
  refine headB0_run q C (fb := fb) (lo := k) (fl := k) (far := far) hQ ?_ (box hk0 hB0) (box hfb hBf) hk0 hfb F' hl6
  rfl

theorem law_run (ap1 : Apart [97, 98, 99]) (ap2 : Apart [1, 255, 97]) (ns : List Int) (hQ : ∀ σ, Q (.bool true) σ) : Cl (runW prog (n + 7)) 26 [.seq false (iv ns)] [] Q := by
  have go : ∀ (cs : List Int) (ρ : Rho), 1 ≤ cs.length → cs.length ≤ 2 → Has ρ [(53, .seq false (iv ns)), (54, .seq false (iv cs))] → Lk (Exs (drp 1 d26.2) (runW prog (n + 6)) ρ [] (RetQ Q)) := by
    intro cs ρ hc1 hc2 hρ
    -- the boxes
    refine hρ.go (Lk.mk (ov_seq ?_))
    refine comp_all (fun i acc σ' => C3 (acc = (List.range i).map V.ref) (List.length σ' = i) (∀ j, j < i → BoxAt σ' j)) (by rw [iv_len]; omega) ⟨rfl, rfl, nofun⟩ (fun _ _ _ g => g) ?_ ?_
    · intro i v acc σ hv hP
      refine at_iv hv fun x hx => ?_
      obtain ⟨rfl, hl, hB⟩ := hP
      refine sl_seq (CutI.in rfl) (Exists.intro _ (And.intro rfl (box_run fun x y => And.intro trivial ⟨?_, ?_, fun j hj => ?_⟩)))
      · rw [List.range_succ, List.map_append, hl]; rfl
      · rw [List.length_append, hl]; rfl
      · rcases Nat.lt_succ_iff_lt_or_eq.mp hj with h | h
        · exact (hB j h).old _
        · exact ⟨x, y, by rw [h, ← hl]; exact get_last _ _⟩
    intro acc σ₀ hP
    rw [iv_len] at hP
    obtain ⟨rfl, hl0, hBs⟩ := hP
    generalize cs.length = k at *
    have hf : (List.range k).map V.ref ≠ [] := fun e => by rw [List.map_eq_nil_iff, List.range_eq_nil] at e; omega
    have i0 : ((List.range k).map V.ref)[0]? = some (.ref 0) := by rw [List.getElem?_map, List.getElem?_range (by omega)]; rfl
    have i1 : ((List.range k).map V.ref).getLast? = some (.ref (k - 1)) := by rw [List.getLast?_eq_getElem?, List.length_map, List.length_range, List.getElem?_map, List.getElem?_range (by omega)]; rfl
    have hB00 := hBs 0 (by omega)
    have hBf0 := hBs (k - 1) (by omega)
    have hfbk : k - 1 < k := by omega
    have hk0 : 0 < k := hc1
    clear hBs hf
    refine Lk.mk (ix_seq i0 rfl (ix_last i1 (And.intro (ll rfl) (Lk.mk ?_))))
    generalize k - 1 = fb at *
    -- the names
    refine And.intro (ll rfl) (And.intro (ll rfl) (And.intro (ll rfl) (take_run hB00 (by decide) (by decide) fun d1 σ₁ _ _ b1 => names_at fun names hnm => Lk.mk ?_)))
    have hB01 := b1.box hB00
    -- far
    refine take_run hB01 (by decide) (by decide) fun d2 σ₂ _ _ b2 => ?_
    have hB02 := b2.box hB01
    have hBf2 := b2.box' hB01 (b1.box' hB00 hBf0)
    have hσ2 : σ₂.length = k := (b1.trans b2).len.trans hl0
    have hn3 : names.length = 3 := by rcases hnm with e | e <;> rw [e] <;> rfl
    have hn255 : ∀ l ∈ names, 1 ≤ l ∧ l ≤ 255 := by rcases hnm with e | e <;> rw [e] <;> decide
    have hap : Apart names := by rcases hnm with e | e <;> rw [e] <;> assumption
    have rest : ∀ (far : Bool) (ρ : Rho), Has ρ [(53, .seq false (iv ns)), (57, .bool far), (56, .ref fb), (31, .seq false (iv names)), (29, .ref 0)] → Lk (Exs (drp 5 d26.2) (runW prog (n + 6)) ρ σ₂ (RetQ Q)) := by
      intro far ρ hρ
      have forms : ∀ most longest : Int, 0 < most → most ≤ 10 → 0 < longest → longest ≤ 3 → Cl (runW prog (n + 6)) 17 [.ref 0, .seq false (iv names), .int most, .int longest] σ₂ fun v σ' => Lk (Exs (drp 6 d26.2) (runW prog (n + 6)) (upd (updL ρ [(53, .seq false (iv ns)), (57, .bool far), (56, .ref fb), (31, .seq false (iv names)), (29, .ref 0)]) 37 v) σ' (RetQ Q)) := by
        intro most longest m0 m1 l0 l1
        refine forms_run (n := n + 3) hB02 hn3 hn255 m0 m1 l0 l1 fun fs σ₃ FF N hne hfl hB03 old3 => ?_
        rw [hσ2] at FF old3 ⊢
        have hBf3 : BoxAt σ₃ fb := by
          by_cases e : fb = 0
          · rw [e]; exact hB03
          · obtain ⟨p, q, h⟩ := hBf2; exact ⟨p, q, (old3 fb hfbk e).trans h⟩
        cases fs with
        | nil => exact absurd rfl hne
        | cons x fs =>
          obtain ⟨core, ds⟩ := x
          refine head6_run hQ hn3 (names_two hnm) hn255 hap FF N hfl hB03 hBf3 hk0 hfbk (far := far) ?_
          rfl
      refine hρ.go (Lk.mk ?_)
      cases far with
      | true => exact forms 2 2 (by decide) (by decide) (by decide) (by decide)
      | false => exact brS (fun _ => forms 2 3 (by decide) (by decide) (by decide) (by decide)) fun _ => forms 5 3 (by decide) (by decide) (by decide) (by decide)
    refine brS (fun _ => rest (decide (((iv ns).length : Int) > 1)) _ ?_) fun _ => rest false _ ?_
    · rfl
    · rfl
  refine Cl.go d26 rfl rfl (And.intro (ll rfl) (eq_iv (x := ns) (y := []) (brNS (fun h => ?_) fun h => ?_)))
  · refine sl_seq (CutI.ni (b := 2) rfl) ?_
    have := List.length_pos_iff.mpr h
    refine go (ns.take 2) _ (by rw [List.length_take]; omega) (List.length_take_le 2 ns) ?_
    rfl
  · refine And.intro (ll rfl) ?_
    refine go [1000000000000000000 + 1743362577812137464] _ (by decide) (by decide) ?_
    rfl
end
end Mine
end

section
namespace Mine
open PySem

noncomputable def nms : List Str := (["k", "self", "reason", "value", "low", "high", "letters", "letter", "begin", "end", "digits", "digit", "found", "state", "row", "spot", "text", "places", "place", "marks", "left", "right", "word", "first", "last"] : List Str) ++ (["kept", "numbers", "cell", "more", "box", "many", "names", "most", "longest", "turn", "way", "form", "forms", "table", "ahead", "behind", "shape", "gap", "top", "reach", "words", "known", "told", "view", "ends"] : List Str) ++ (["fresh", "at", "name", "script", "cells", "boxes", "far", "is_far", "core", "gaps", "begins", "finishes", "heads", "tails", "second", "short", "third", "shift", "seen", "other", "due", "later", "stands"] : List Str)
noncomputable def attrs : List Str := ["links", "numbers", "states", "exceptions"]
noncomputable def fns : List Str := ["__init__", "is_whole", "check_whole", "is_word", "inner_letters", "check_pattern", "word_key", "least_part", "state_of", "add", "add_exception", "gap_numbers", "points", "_law_box", "_law_take", "_law_row", "_law_inner", "_law_forms", "_law_table", "_law_reach", "_law_more", "_law_view", "_law_known", "_law_let", "_law_points", "_law_turned", "law"]
noncomputable def prims : List (Str × Nat × Prim) := [("len", 1, .len), ("range", 1, .range1), ("range", 2, .range2), ("list", 1, .toList), ("tuple", 1, .toTuple), ("max", 2, .max), ("min", 2, .min), ("abs", 1, .abs), ("int", 1, .intOf), ("sum", 1, .sum), ("dict", 1, .dictCopy)]

noncomputable def findAt (x : Str) : Nat → List Str → Option Nat
  | _, [] => none
  | i, y :: r => if y == x then some i else findAt x (i + 1) r
noncomputable def code (x : Str) : Option Nat := findAt x 0 nms
noncomputable def attrCode (x : Str) : Option Nat := findAt x 0 attrs
noncomputable def fnCode (x : Str) : Option Nat := findAt x 0 fns
noncomputable def primOf (x : Str) (n : Nat) : Option Prim := (prims.find? fun p => p.1 == x && p.2.1 == n).map (·.2.2)
noncomputable def constOf (x : Str) : Option Int := if x == ("EDGE" : Str) then some 0 else if x == ("LONGEST" : Str) then some 63 else none

noncomputable def isVar (sc : Scope) (x : Str) : Bool := match sc.names.lookup x with
  | some .local | some .cell | some .free => true
  | _ => false
noncomputable def isGlob (sc : Scope) (x : Str) : Bool := sc.names.lookup x == some .globalImplicit

noncomputable def boolT (b : Bool) : T := .lit (.bool b)

noncomputable def compOp : Operator → Option BO
  | .Add => some .add | .Sub => some .sub | .Mult => some .mul | .FloorDiv => some .fdiv | .Mod => some .mod
  | _ => none
noncomputable def compCmp : CmpOp → Option CO
  | .Eq => some .eq | .NotEq => some .ne | .Lt => some .lt | .LtE => some .le | .Gt => some .gt | .GtE => some .ge | .In => some .isin | .NotIn => some .notin
  | _ => none

noncomputable def isMethod (f : Nat) : Bool := f == 8 || f == 9 || f == 10 || f == 11 || f == 12
noncomputable def isDef (f : Nat) : Bool := (1 ≤ f && f ≤ 7) || 13 ≤ f

noncomputable def compOk (sc scope : Scope) (x : Str) : Bool :=
  (match scope.kind with | .function => true | _ => false) && scope.names.lookup x == some .local && decide ((scope.names.map (·.1)).Nodup) &&
  scope.names.all fun y => match y.2 with
    | .local => y.1 == x || y.1 == (".0" : Str)
    | .free => (match sc.names.lookup y.1 with | some .cell | some .free => true | _ => false)
    | .globalImplicit => true
    | _ => false
noncomputable def plainBase : Expr → Bool
  | .Name .. | .Attribute .. | .Subscript .. => true
  | _ => false
noncomputable def methOk (o : Expr) (apos pos : Pos) (n : Nat) : Bool := plainBase o && apos.endLine == pos.line && decide (n < 25)

noncomputable def badTuple (e : Expr) : Bool := match e with | .Tuple vs _ _ => vs.all (constantsAlone 8) && !vs.all (foldedForSure 8) | _ => false
noncomputable def addSub : Operator → Bool
  | .Add | .Sub => true
  | _ => false
noncomputable def storable (sc : Scope) (x : Str) : Bool := match sc.names.lookup x with
  | some .local | some .cell => true
  | _ => false
end Mine
end

section
set_option autoImplicit false
namespace Mine
open PySem PySem.W PyProof.Rows

noncomputable abbrev Phi := List Addr

class Hid where
  z : Addr → Prop
variable [Hid]
noncomputable def Off (φ : Phi) (a : Addr) : Prop := a ∉ φ ∧ ¬ Hid.z a

structure Ext (own : List Addr) (h : Heap) (φ : Phi) (h' : Heap) (φ' : Phi) : Prop where
  pre : φ <+: φ'
  new : ∀ a ∈ φ', a ∈ φ ∨ h.get? a = none
  keep : ∀ b o, h.get? b = some o → b ∉ φ → b ∉ own → h'.get? b = some o

theorem Ext.refl (own : List Addr) (h : Heap) (φ : Phi) : Ext own h φ h φ := ⟨List.prefix_refl _, fun _ h => .inl h, fun _ _ e _ _ => e⟩
theorem Ext.trans' {own : List Addr} {h h' h'' : Heap} {φ φ' φ'' : Phi} (x : Ext own h φ h' φ') (y : Ext own h' φ' h'' φ'') (hb : ∀ b ∈ own, ∃ o, h'.get? b = some o) : Ext own h φ h'' φ'' where
  pre := x.pre.trans y.pre
  new := fun a ha => by
    rcases y.new a ha with h1 | h1
    · exact x.new a h1
    · by_cases hφ : a ∈ φ
      · exact .inl hφ
      · refine .inr ?_
        cases e : h.get? a with
        | none => rfl
        | some o =>
          by_cases ho : a ∈ own
          · obtain ⟨o', e'⟩ := hb a ho; rw [h1] at e'; cases e'
          · rw [x.keep a o e hφ ho] at h1; cases h1
  keep := fun b o e h1 h2 => by
    refine y.keep b o (x.keep b o e h1 h2) (fun h3 => ?_) h2
    rcases x.new b h3 with h4 | h4
    · exact h1 h4
    · rw [h4] at e; cases e
theorem Ext.trans {h h' h'' : Heap} {φ φ' φ'' : Phi} (x : Ext [] h φ h' φ') (y : Ext [] h' φ' h'' φ'') : Ext [] h φ h'' φ'' := x.trans' y fun _ h => nomatch h
theorem Ext.more {own : List Addr} {h h' : Heap} {φ φ' : Phi} (x : Ext [] h φ h' φ') : Ext own h φ h' φ' := ⟨x.pre, x.new, fun b o e h1 _ => x.keep b o e h1 (by simp)⟩

theorem Ext.all {own : List Addr} {h h' : Heap} {φ : Phi} (hk : ∀ b o, h.get? b = some o → h'.get? b = some o) : Ext own h φ h' φ :=
  ⟨List.prefix_refl _, fun _ h => .inl h, fun b o e _ _ => hk b o e⟩

section
variable (h : Heap) (φ : Phi)
mutual
inductive Den : Value → V → Prop
  | nul : Den .none .nul
  | bool (b : Bool) : Den (.bool b) (.bool b)
  | int (i : Int) (t : Tok) : Den (.int i t) (.int i)
  | list {a : Addr} {items : Array Value} {xs : List V} : h.IsList a items → Off φ a → items.size ≤ sizeLine → Dens items.toList xs → Den (.ref a) (.seq false xs)
  | tup {a : Addr} {items : Array Value} {xs : List V} : h.IsTuple a items → Off φ a → items.size ≤ sizeLine → Dens items.toList xs → Den (.ref a) (.seq true xs)
  | rng {a : Addr} {lo hi : Int} {t u v : Tok} : IsRange h a lo hi 1 t u v → Off φ a → Den (.ref a) (.rng lo hi)
  | ref {i : Nat} {a : Addr} : φ[i]? = some a → Den (.ref a) (.ref i)
inductive Dens : List Value → List V → Prop
  | nil : Dens [] []
  | cons {v : Value} {x : V} {vs : List Value} {xs : List V} : Den v x → Dens vs xs → Dens (v :: vs) (x :: xs)
end
end

theorem Dens.length {h : Heap} {φ : Phi} {vs : List Value} {xs : List V} (d : Dens h φ vs xs) : vs.length = xs.length := by
  induction vs generalizing xs with
  | nil => cases d; rfl
  | cons v vs ih => cases d with | cons a r => exact congrArg Nat.succ (ih r)
theorem Dens.get {h : Heap} {φ : Phi} {vs : List Value} {xs : List V} (d : Dens h φ vs xs) {i : Nat} {x : V} (e : xs[i]? = some x) : ∃ v, vs[i]? = some v ∧ Den h φ v x := by
  induction vs generalizing xs i with
  | nil => cases d; cases e
  | cons v vs ih =>
    cases d with
    | cons a r =>
      cases i with
      | zero => cases e; exact ⟨_, rfl, a⟩
      | succ i => exact ih r e
theorem Dens.append {h : Heap} {φ : Phi} {vs us : List Value} {xs ys : List V} (d : Dens h φ vs xs) (e : Dens h φ us ys) : Dens h φ (vs ++ us) (xs ++ ys) := by
  induction vs generalizing xs with
  | nil => cases d; exact e
  | cons v vs ih => cases d with | cons a r => exact .cons a (ih r)
theorem Dens.take {h : Heap} {φ : Phi} {vs : List Value} {xs : List V} (d : Dens h φ vs xs) (n : Nat) : Dens h φ (vs.take n) (xs.take n) := by
  induction vs generalizing xs n with
  | nil => cases d; rw [List.take_nil, List.take_nil]; exact .nil
  | cons v vs ih =>
    cases n with
    | zero => exact .nil
    | succ n => cases d with | cons a r => exact .cons a (ih r n)
theorem Dens.drop {h : Heap} {φ : Phi} {vs : List Value} {xs : List V} (d : Dens h φ vs xs) (n : Nat) : Dens h φ (vs.drop n) (xs.drop n) := by
  induction vs generalizing xs n with
  | nil => cases d; rw [List.drop_nil, List.drop_nil]; exact .nil
  | cons v vs ih =>
    cases n with
    | zero => exact d
    | succ n => cases d with | cons a r => exact ih r n
theorem Dens.set {h : Heap} {φ : Phi} {v : Value} {x : V} (e : Den h φ v x) {vs : List Value} {xs : List V} (d : Dens h φ vs xs) (n : Nat) : Dens h φ (vs.set n v) (xs.set n x) := by
  induction vs generalizing xs n with
  | nil => cases d; exact .nil
  | cons u vs ih =>
    cases d with
    | cons a r =>
      cases n with
      | zero => exact .cons e r
      | succ n => exact .cons a (ih r n)
theorem Dens.rep {h : Heap} {φ : Phi} {vs : List Value} {xs : List V} (d : Dens h φ vs xs) (n : Nat) : Dens h φ (List.replicate n vs).flatten (rep n xs) := by
  induction n with
  | zero => exact .nil
  | succ n ih => rw [List.replicate_succ, List.flatten_cons]; exact d.append ih

noncomputable def Bare (h : Heap) (own : List Addr) : Prop := ∀ b ∈ own, Hid.z b ∨ ∃ o, h.get? b = some o ∧ ((∃ es n, o.data = .dict es n) ∨ (∃ v, o.data = .cell v) ∨ ((∃ vs, o.data = .fields vs) ∧ o.cls ≠ .type "range"))
theorem Bare.nil {h : Heap} : Bare h [] := fun _ h => nomatch h

section
variable {own : List Addr} {h h' : Heap} {φ φ' : Phi} (x : Ext own h φ h' φ') (hb : Bare h own)
include x
theorem Ext.notIn {a : Addr} {o : Obj} (e : h.get? a = some o) (ha : a ∉ φ) : a ∉ φ' := fun hm => by
  rcases x.new a hm with h1 | h1
  · exact ha h1
  · rw [h1] at e; cases e
theorem Ext.off {a : Addr} {o : Obj} (e : h.get? a = some o) (ha : Off φ a) : Off φ' a := ⟨x.notIn e ha.1, ha.2⟩
include hb
theorem Ext.keepSeq {a : Addr} {o : Obj} {items : Array Value} {n : Nat} (e : h.get? a = some o) (ha : Off φ a) (hd : o.data = .seq items n) : h'.get? a = some o :=
  x.keep a o e ha.1 fun hm => by
    obtain q | ⟨o', e', q⟩ := hb a hm
    · exact ha.2 q
    rw [e] at e'; cases e'
    rcases q with ⟨_, _, q⟩ | ⟨_, q⟩ | ⟨⟨_, q⟩, _⟩ <;> rw [hd] at q <;> cases q
theorem Ext.keepRange {a : Addr} {o : Obj} {vs : Array Value} (e : h.get? a = some o) (ha : Off φ a) (hd : o.data = .fields vs) (hc : o.cls = .type "range") : h'.get? a = some o :=
  x.keep a o e ha.1 fun hm => by
    obtain q | ⟨o', e', q⟩ := hb a hm
    · exact ha.2 q
    rw [e] at e'; cases e'
    rcases q with ⟨_, _, q⟩ | ⟨_, q⟩ | ⟨_, q⟩
    · rw [hd] at q; cases q
    · rw [hd] at q; cases q
    · exact q hc

theorem Ext.isList {a : Addr} {items : Array Value} (l : h.IsList a items) (ha : Off φ a) : h'.IsList a items := by
  obtain ⟨o, e, c, n, q⟩ := l
  exact ⟨o, x.keepSeq hb e ha q, c, n, q⟩
theorem Ext.isTup {a : Addr} {items : Array Value} (l : h.IsTuple a items) (ha : Off φ a) : h'.IsTuple a items := by
  obtain ⟨o, e, c, n, q⟩ := l
  exact ⟨o, x.keepSeq hb e ha q, c, n, q⟩
theorem Ext.offSeq {a : Addr} {T : String} {items : Array Value} (l : ∃ o, h.get? a = some o ∧ o.cls = .type T ∧ ∃ n, o.data = .seq items n) (ha : Off φ a) : Off φ' a := by
  obtain ⟨o, e, _⟩ := l
  exact x.off e ha
omit hb in
theorem Ext.keepAt {i : Nat} {a : Addr} (e : φ[i]? = some a) : φ'[i]? = some a := by
  obtain ⟨t, rfl⟩ := x.pre
  rw [List.getElem?_append_left (List.getElem?_eq_some_iff.mp e).1]; exact e
theorem Den.mono {v : Value} {d : V} (p : Den h φ v d) : Den h' φ' v d :=
  Den.rec (motive_1 := fun v d _ => Den h' φ' v d) (motive_2 := fun vs ds _ => Dens h' φ' vs ds) .nul .bool .int (fun l ha hz _ ih => .list (x.isList hb l ha) (x.offSeq hb l ha) hz ih) (fun l ha hz _ ih => .tup (x.isTup hb l ha) (x.offSeq hb l ha) hz ih)
    (fun r ha => .rng (x.keepRange hb r ha rfl rfl) (x.off r ha)) (fun e => .ref (x.keepAt e)) .nil (fun _ _ a r => .cons a r) p
theorem Dens.mono {v : List Value} {d : List V} (p : Dens h φ v d) : Dens h' φ' v d := by
  induction v generalizing d with
  | nil => cases p; exact .nil
  | cons v vs ih => cases p with | cons a r => exact .cons (a.mono x hb) (ih r)
end

inductive All2 {α β : Type} (R : α → β → Prop) : List α → List β → Prop
  | nil : All2 R [] []
  | cons {a : α} {b : β} {as : List α} {bs : List β} : R a b → All2 R as bs → All2 R (a :: as) (b :: bs)
theorem All2.mono {α β : Type} {R S : α → β → Prop} (hr : ∀ a b, R a b → S a b) {as : List α} {bs : List β} (d : All2 R as bs) : All2 S as bs := by
  induction d with
  | nil => exact .nil
  | cons a _ ih => exact .cons (hr _ _ a) ih
theorem All2.length {α β : Type} {R : α → β → Prop} {as : List α} {bs : List β} (d : All2 R as bs) : as.length = bs.length := by
  induction d with
  | nil => rfl
  | cons a _ ih => exact congrArg Nat.succ ih
theorem All2.get' {α β : Type} {R : α → β → Prop} {as : List α} {bs : List β} (d : All2 R as bs) {i : Nat} {a : α} (e : as[i]? = some a) : ∃ b, bs[i]? = some b ∧ R a b := by
  induction d generalizing i with
  | nil => cases e
  | cons p _ ih =>
    cases i with
    | zero => cases e; exact ⟨_, rfl, p⟩
    | succ i => exact ih e

section
variable (prog : Program) (w : World)

noncomputable abbrev iK : KeyKind prog w Int := intKind prog w
noncomputable abbrev tK : HeapKind prog w (List Int) := tupleKind (intKind prog w)

noncomputable def IntD (h : Heap) (φ : Phi) (a : Addr) (es : List (K × V)) : Prop :=
  ∃ kvs : List (Int × Value), h.DictOf (iK prog w) a kvs ∧ All2 (fun (x : Int × Value) (e : K × V) => e.1 = .i x.1 ∧ Den h φ x.2 e.2) kvs es
noncomputable def TupD (h : Heap) (φ : Phi) (a : Addr) (es : List (K × V)) : Prop :=
  ∃ xs : List (List Int × Addr × Value), h.DictOfH (tK prog w) a xs ∧
    All2 (fun (x : List Int × Addr × Value) (e : K × V) => e.1 = .t x.1 ∧ Den h φ (.ref x.2.1) (.seq true (x.1.map .int)) ∧ Den h φ x.2.2 e.2) xs es
noncomputable def NsD (h : Heap) (φ : Phi) (l : List DictEntry) (es : List (Nat × V)) : Prop :=
  All2 (fun (e : DictEntry) (p : Nat × V) => (∃ x t, attrs[p.1]? = some x ∧ e.key = .str x t) ∧ Den h φ e.val p.2) l es

noncomputable def MDen (C : Addr) (h : Heap) (φ : Phi) (a : Addr) : MO → Prop
  | .list xs => ∃ items, h.PlainList a items ∧ items.size ≤ sizeLine ∧ Dens h φ items.toList xs
  | .dict es => (a == sysModules) = false ∧ (∃ o l n, h.get? a = some o ∧ o.cls = .type "dict" ∧ o.data = .dict l n) ∧ (es.all (·.1.isI) = true → IntD prog w h φ a es) ∧ (es.all (fun e => !e.1.isI) = true → TupD prog w h φ a es)
  | .ns es => ∃ l n, h.get? a = some (dictOf l n) ∧ NsD h φ l es
  | .inst d => ∃ da, φ[d]? = some da ∧ h.get? a = some ⟨.ref C, some da, .plain, #[]⟩

variable {prog w}
theorem MDen.alive {C : Addr} {h : Heap} {φ : Phi} {a : Addr} {o : MO} (m : MDen prog w C h φ a o) : ∃ ob, h.get? a = some ob ∧ ((∃ items n, ob.data = .seq items n) ∨ (∃ es n, ob.data = .dict es n) ∨ ob.data = .plain) := by
  cases o with
  | list xs => obtain ⟨_, ⟨n, e⟩, _⟩ := m; exact ⟨_, e, .inl ⟨_, n, rfl⟩⟩
  | dict es => obtain ⟨_, ⟨o, l, n, e, _, q⟩, _, _⟩ := m; exact ⟨o, e, .inr (.inl ⟨_, _, q⟩)⟩
  | ns es => obtain ⟨l, n, e, _⟩ := m; exact ⟨_, e, .inr (.inl ⟨_, _, rfl⟩)⟩
  | inst d => obtain ⟨_, _, e⟩ := m; exact ⟨_, e, .inr (.inr rfl)⟩

theorem Dens.ints {h : Heap} {φ : Phi} {vs : List Value} {ns : List Int} (d : Dens h φ vs (ns.map .int)) : ItemsAre (iK prog w) ns vs := by
  induction ns generalizing vs with
  | nil => cases d; exact .nil
  | cons n ns ih => cases d with | cons a r => cases a; exact .cons (by simp [iK, intKind, Value.isInt]) (ih r)
theorem Den.key {h : Heap} {φ : Phi} {a : Addr} {ns : List Int} (d : Den h φ (.ref a) (.seq true (ns.map .int))) : IsTupleKey (iK prog w) h ns a := by
  cases d with
  | tup l _ _ d => obtain ⟨o, e, c, n, q⟩ := l; exact ⟨o, _, n, e, c, q, d.ints⟩

section
variable {own : List Addr} {h h' : Heap} {φ φ' : Phi} {C : Addr} (x : Ext own h φ h' φ') (hb : Bare h own)
include x hb
theorem MDen.mono {a : Addr} (e : h'.get? a = h.get? a) {o : MO} (m : MDen prog w C h φ a o) : MDen prog w C h' φ' a o := by
  cases o with
  | list xs => obtain ⟨items, ⟨n, eo⟩, hz, d⟩ := m; exact ⟨items, ⟨n, e.trans eo⟩, hz, d.mono x hb⟩
  | dict es =>
    obtain ⟨hs, ⟨o, l, n, eo, q⟩, m1, m2⟩ := m
    refine ⟨hs, ⟨o, l, n, e.trans eo, q⟩, fun hi => ?_, fun hi => ?_⟩
    · obtain ⟨kvs, ⟨o, l, ep, eo, r⟩, ha⟩ := m1 hi
      exact ⟨kvs, ⟨o, l, ep, e.trans eo, r⟩, ha.mono fun _ _ q => ⟨q.1, q.2.mono x hb⟩⟩
    · obtain ⟨xs, ⟨o, l, ep, eo, r1, r2, r3, r4, r5⟩, ha⟩ := m2 hi
      have ha' : All2 (fun (x : List Int × Addr × Value) (e : K × V) => e.1 = .t x.1 ∧ Den h' φ' (.ref x.2.1) (.seq true (x.1.map .int)) ∧ Den h' φ' x.2.2 e.2) xs es :=
        ha.mono fun _ _ q => ⟨q.1, q.2.1.mono x hb, q.2.2.mono x hb⟩
      refine ⟨xs, ⟨o, l, ep, e.trans eo, r1, r2, r3, fun y hy => ?_, r5⟩, ha'⟩
      obtain ⟨i, hi⟩ := List.mem_iff_getElem?.mp hy
      obtain ⟨_, _, q⟩ := ha'.get' hi
      exact q.2.1.key
  | ns es => obtain ⟨l, n, eo, d⟩ := m; exact ⟨l, n, e.trans eo, All2.mono (fun _ _ q => ⟨q.1, q.2.mono x hb⟩) d⟩
  | inst d =>
    obtain ⟨da, q, eo⟩ := m
    refine ⟨da, ?_, e.trans eo⟩
    obtain ⟨t, rfl⟩ := x.pre
    rw [List.getElem?_append_left (List.getElem?_eq_some_iff.mp q).1]; exact q
end

structure Sim (prog : Program) (w : World) (C : Addr) (h₀ h : Heap) (φ : Phi) (σ : St) : Prop where
  base : ∀ b o, h₀.get? b = some o → h.get? b = some o ∧ b ∉ φ
  nodup : φ.Nodup
  len : φ.length = σ.length
  obj : ∀ (i : Nat) (o : MO), σ[i]? = some o → ∃ a, φ[i]? = some a ∧ MDen prog w C h φ a o
  hid : ∀ a, Hid.z a → a ∉ φ ∧ ∃ o, h.get? a = some o

variable {C : Addr} {h₀ h h' : Heap} {φ φ' : Phi} {σ σ' : St} {own : List Addr}
theorem Sim.alive (S : Sim prog w C h₀ h φ σ) {a : Addr} (ha : a ∈ φ) : ∃ o, h.get? a = some o := by
  obtain ⟨i, hi⟩ := List.mem_iff_getElem?.mp ha
  have hlt : i < σ.length := S.len ▸ (List.getElem?_eq_some_iff.mp hi).1
  obtain ⟨a', h1, m⟩ := S.obj i σ[i] (by simp [hlt])
  rw [hi] at h1; cases h1
  obtain ⟨o, e, _⟩ := m.alive
  exact ⟨o, e⟩
theorem Sim.gen (S : Sim prog w C h₀ h φ σ) (x : Ext own h φ h' φ') (hb : Bare h own) (hbase : ∀ b ∈ own, h₀.get? b = none) (hz : ∀ b ∈ own, Hid.z b → ∃ o, h'.get? b = some o) (hn : φ'.Nodup) (hl : φ'.length = σ'.length)
    (hobj : ∀ (i : Nat) (o : MO), σ'[i]? = some o → ∃ a, φ'[i]? = some a ∧ (MDen prog w C h' φ' a o ∨ (σ[i]? = some o ∧ φ[i]? = some a ∧ h'.get? a = h.get? a))) : Sim prog w C h₀ h' φ' σ' where
  base := fun b o e => by
    obtain ⟨e1, e2⟩ := S.base b o e
    refine ⟨x.keep b o e1 e2 fun hm => ?_, x.notIn e1 e2⟩
    rw [hbase b hm] at e; cases e
  nodup := hn
  len := hl
  obj := fun i o e => by
    obtain ⟨a, h1, h2 | ⟨h2, h3, h4⟩⟩ := hobj i o e
    · exact ⟨a, h1, h2⟩
    · obtain ⟨a', h5, m⟩ := S.obj i o h2
      rw [h3] at h5; cases h5
      exact ⟨a, h1, m.mono x hb h4⟩
  hid := fun a ha => by
    obtain ⟨h1, o, e⟩ := S.hid a ha
    refine ⟨x.notIn e h1, ?_⟩
    by_cases hm : a ∈ own
    · exact hz a hm ha
    · exact ⟨o, x.keep a o e h1 hm⟩

theorem Sim.keep (S : Sim prog w C h₀ h φ σ) (hk : ∀ b o, h.get? b = some o → h'.get? b = some o) : Sim prog w C h₀ h' φ σ :=
  S.gen (Ext.all (own := []) hk) Bare.nil (fun _ h => nomatch h) (fun _ h => nomatch h) S.nodup S.len fun i o e => by
    obtain ⟨a, h1, m⟩ := S.obj i o e
    obtain ⟨ob, e1, _⟩ := m.alive
    exact ⟨a, h1, .inr ⟨e, h1, (hk a ob e1).trans e1.symm⟩⟩
theorem Sim.push (S : Sim prog w C h₀ h φ σ) {a : Addr} {o : MO} (ha : h.get? a = none) (hk : ∀ b o, h.get? b = some o → h'.get? b = some o) (m : MDen prog w C h' (φ ++ [a]) a o) :
    Sim prog w C h₀ h' (φ ++ [a]) (σ ++ [o]) ∧ Ext own h φ h' (φ ++ [a]) := by
  have x : ∀ own, Ext own h φ h' (φ ++ [a]) := fun own => ⟨List.prefix_append .., fun b hb => by rcases List.mem_append.mp hb with h1 | h1; exact .inl h1; exact .inr (by simp at h1; rw [h1]; exact ha), fun b o e _ _ => hk b o e⟩
  refine ⟨S.gen (x []) Bare.nil (fun _ h => nomatch h) (fun _ h => nomatch h) ?_ (by simp [S.len]) fun i ob e => ?_, x own⟩
  · rw [List.nodup_append]
    refine ⟨S.nodup, by simp, fun b hb c hc => ?_⟩
    simp at hc; subst hc
    rintro rfl
    obtain ⟨o, e⟩ := S.alive hb
    rw [ha] at e; cases e
  · rcases Nat.lt_trichotomy i σ.length with hlt | heq | hgt
    · rw [List.getElem?_append_left hlt] at e
      obtain ⟨b, h1, m'⟩ := S.obj i ob e
      obtain ⟨ob', e1, _⟩ := m'.alive
      exact ⟨b, by rw [List.getElem?_append_left (S.len ▸ hlt)]; exact h1, .inr ⟨e, h1, (hk b ob' e1).trans e1.symm⟩⟩
    · subst heq
      simp at e; subst e
      exact ⟨a, by rw [← S.len]; simp, .inl m⟩
    · rw [List.getElem?_eq_none (by simp; omega)] at e; cases e
theorem Sim.set (S : Sim prog w C h₀ h φ σ) {a : Addr} {i : Nat} {o : MO} (hi : φ[i]? = some a) (hk : ∀ b o, b ≠ a → h.get? b = some o → h'.get? b = some o) (m : MDen prog w C h' φ a o) :
    Sim prog w C h₀ h' φ (σ.set i o) ∧ Ext own h φ h' φ := by
  have hm : a ∈ φ := List.mem_of_getElem? hi
  have x : ∀ own, Ext own h φ h' φ := fun own => ⟨List.prefix_refl _, fun _ h => .inl h, fun b o e hb _ => hk b o (fun q => hb (q ▸ hm)) e⟩
  refine ⟨S.gen (x []) Bare.nil (fun _ h => nomatch h) (fun _ h => nomatch h) S.nodup (by simp [S.len]) fun j ob e => ?_, x own⟩
  by_cases hj : i = j
  · subst hj
    have hlt : i < σ.length := by rw [← S.len]; exact (List.getElem?_eq_some_iff.mp hi).1
    rw [List.getElem?_set_self hlt] at e
    cases e
    exact ⟨a, hi, .inl m⟩
  · rw [List.getElem?_set_ne hj] at e
    obtain ⟨b, h1, m'⟩ := S.obj j ob e
    obtain ⟨ob', e1, _⟩ := m'.alive
    have hne : b ≠ a := by
      rintro rfl
      exact hj ((List.getElem?_inj (List.getElem?_eq_some_iff.mp hi).1 S.nodup).mp (hi.trans h1.symm))
    exact ⟨b, h1, .inr ⟨e, h1, (hk b ob' hne e1).trans e1.symm⟩⟩
theorem Sim.atOwn (S : Sim prog w C h₀ h φ σ) (hb : Bare h own) (hbase : ∀ b ∈ own, h₀.get? b = none) (hd : ∀ b ∈ own, b ∉ φ) (hz : ∀ b ∈ own, Hid.z b → ∃ o, h'.get? b = some o) (hk : ∀ b o, b ∉ own → h.get? b = some o → h'.get? b = some o) :
    Sim prog w C h₀ h' φ σ ∧ Ext own h φ h' φ := by
  have x : Ext own h φ h' φ := ⟨List.prefix_refl _, fun _ h => .inl h, fun b o e _ ho => hk b o ho e⟩
  refine ⟨S.gen x hb hbase hz S.nodup S.len fun i o e => ?_, x⟩
  obtain ⟨a, h1, m⟩ := S.obj i o e
  obtain ⟨ob, e1, _⟩ := m.alive
  exact ⟨a, h1, .inr ⟨e, h1, (hk a ob (fun q => hd a q (List.mem_of_getElem? h1)) e1).trans e1.symm⟩⟩
end
end Mine
end

section
set_option autoImplicit false
namespace Mine
open PySem PySem.W PyProof.Rows

structure KOk (K : Frag) (C : Addr) (fa : Nat → Addr) : Prop where
  cd : ∃ cd, clsIn K C = some cd ∧ cd.hasDict = true
  attr : ∀ x ∈ attrs, findIn K (.ref C) x = some none
  ga : findIn K (.ref C) "__getattribute__" = some (some (.builtin "object.__getattribute__"))
  gh : findIn K (.ref C) "__getattr__" = some none
  sa : findIn K (.ref C) "__setattr__" = some (some (.builtin "object.__setattr__"))
  over : plainOver K C = true
  meth : ∀ f x, isMethod f = true → fns[f]? = some x → findIn K (.ref C) x = some (some (.ref (fa f)))
  func : ∀ f, f < 27 → typeIn K (.ref (fa f)) = some (.type "function")
  keep : ∀ f, f < 27 → keepIn K (.ref (fa f)) = true
  makes : makesIn K C = true
  init : findIn K (.ref C) "__init__" = some (some (.ref (fa 0)))
  keepC : keepIn K (.ref C) = true

structure Wd (prog : Program) (w : World) where
  h₀ : Heap
  mg : Str → Option Value
  mb : Str → Option Value
  K : Frag
  C : Addr
  fa : Nat → Addr
  g : h₀.Ns mainGlobals mg
  b : h₀.Ns builtinsNs mb
  nolimit : h₀.NoLimit
  kin : K.In h₀
  boot : ∀ x : Str, x ≠ "__name__" → mb x = bootBuiltins x
  free : ∀ x ∈ (["len", "range", "list", "tuple", "max", "min", "abs", "int", "bool", "sum", "dict", "isinstance"] : List Str), mg x = none
  edge : ∃ t, mg "EDGE" = some (.int 0 t)
  longest : ∃ t, mg "LONGEST" = some (.int 63 t)
  cls : mg "Patterns" = some (.ref C)
  fn : ∀ f x, isDef f = true → fns[f]? = some x → mg x = some (.ref (fa f))
  ok : KOk K C fa

theorem code_nms {x : Str} {i : Nat} : ∀ {l : List Str} {j : Nat}, findAt x j l = some i → ∃ k, i = j + k ∧ l[k]? = some x
  | [], _, h => nomatch h
  | y :: r, j, h => by
    unfold findAt at h
    split at h
    · rename_i q; cases h; exact ⟨0, rfl, by rw [beq_iff_eq.mp q]; rfl⟩
    · obtain ⟨k, h1, h2⟩ := code_nms h; exact ⟨k + 1, by omega, by simpa using h2⟩
theorem code_get {x : Str} {i : Nat} (h : code x = some i) : nms[i]? = some x := by
  obtain ⟨k, h1, h2⟩ := code_nms h
  obtain rfl : i = k := by omega
  exact h2
theorem nms_nodup : nms.Nodup := by decide +kernel
theorem nms_inj {i j : Nat} {x : Str} (h : nms[i]? = some x) (g : nms[j]? = some x) : i = j :=
  (List.getElem?_inj (List.getElem?_eq_some_iff.mp h).1 nms_nodup).mp (h.trans g.symm)

theorem upd_same {ρ : Rho} {i : Nat} {v : V} : upd ρ i v i = some v := by unfold upd; rw [Nat.beq_refl]; rfl
theorem upd_ne {ρ : Rho} {i j : Nat} {v : V} (h : j ≠ i) : upd ρ i v j = ρ j := by
  unfold upd
  cases e : Nat.beq j i with
  | true => exact absurd (Nat.eq_of_beq_eq_true e) h
  | false => rfl
noncomputable def Same (s s' : Shared) : Prop := s'.gens = s.gens ∧ s'.drawn = s.drawn ∧ s'.os = s.os
theorem Same.refl (s : Shared) : Same s s := ⟨rfl, rfl, rfl⟩
theorem Same.trans {a b c : Shared} (x : Same a b) (y : Same b c) : Same a c := ⟨y.1.trans x.1, y.2.1.trans x.2.1, y.2.2.trans x.2.2⟩
theorem Same.mk {s : Shared} {h : Heap} {t : Nat} : Same s { s with heap := h, toks := t } := ⟨rfl, rfl, rfl⟩

noncomputable def nk : Option NameKind → Nat
  | some .local => 1
  | some .cell | some .free => 2
  | some .globalImplicit => 3
  | _ => 0
noncomputable def ScopeOk (sc : Scope) (env : Env) : Prop := ∀ x, nk (env.kindOf x) = nk (sc.names.lookup x)

section
variable [Hid]
variable {prog : Program} {w : World} (W : Wd prog w)

structure EnvAt (env : Env) (h : Heap) (φ : Phi) (ρ : Rho) (m : Str → Option Value) : Prop where
  kind : env.scope.kind = .function
  glob : env.globals = mainGlobals
  blt : env.builtins = builtinsNs
  ns : h.Ns env.locals m
  lnew : W.h₀.get? env.locals = none
  lφ : env.locals ∉ φ
  cell : ∀ n c, (n, c) ∈ env.cells → (∃ v, h.IsCell c v) ∧ W.h₀.get? c = none ∧ c ∉ φ
  apart : env.cells.Pairwise fun x y => x.2 ≠ y.2
  has : ∀ n, nk (env.kindOf n) = 2 → (env.cells.lookup n).isSome = true
  val : ∀ i x v, ρ i = some v → nms[i]? = some x → (env.kindOf x = some .local → ∃ val, m x = some val ∧ Den h φ val v) ∧
    (nk (env.kindOf x) = 2 → ∃ c val, env.cells.lookup x = some c ∧ h.IsCell c (some val) ∧ Den h φ val v)

noncomputable def EnvRel (env : Env) (h : Heap) (φ : Phi) (ρ : Rho) : Prop := ∃ m, EnvAt W env h φ ρ m

noncomputable abbrev SimW (h : Heap) (φ : Phi) (σ : St) : Prop := Sim prog w W.C W.h₀ h φ σ

noncomputable def ownOf (env : Env) : List Addr := env.locals :: env.cells.map (·.2)

variable {W}
variable {env : Env} {h h' : Heap} {φ φ' : Phi} {ρ : Rho} {m : Str → Option Value}

theorem EnvAt.bare (R : EnvAt W env h φ ρ m) : Bare h (ownOf env) := fun b hb => by
  rcases List.mem_cons.mp hb with rfl | hb
  · obtain ⟨o, es, ep, e, d, _⟩ := R.ns; exact .inr ⟨o, e, .inl ⟨_, _, d⟩⟩
  · obtain ⟨⟨n, c⟩, hm, rfl⟩ := List.mem_map.mp hb
    obtain ⟨⟨v, o, e, d⟩, _⟩ := R.cell n c hm
    exact .inr ⟨o, e, .inr (.inl ⟨_, d⟩)⟩
theorem EnvAt.ownNew (R : EnvAt W env h φ ρ m) : ∀ b ∈ ownOf env, W.h₀.get? b = none := fun b hb => by
  rcases List.mem_cons.mp hb with rfl | hb
  · exact R.lnew
  · obtain ⟨⟨n, c⟩, hm, rfl⟩ := List.mem_map.mp hb
    exact (R.cell n c hm).2.1
theorem EnvAt.ownOff (R : EnvAt W env h φ ρ m) : ∀ b ∈ ownOf env, b ∉ φ := fun b hb => by
  rcases List.mem_cons.mp hb with rfl | hb
  · exact R.lφ
  · obtain ⟨⟨n, c⟩, hm, rfl⟩ := List.mem_map.mp hb
    exact (R.cell n c hm).2.2
theorem EnvAt.ne (R : EnvAt W env h φ ρ m) {n : Str} {c : Addr} (hm : (n, c) ∈ env.cells) : c ≠ env.locals := fun e => by
  obtain ⟨⟨v, o, e1, d⟩, _⟩ := R.cell n c hm
  obtain ⟨o', es, ep, e2, d', _⟩ := R.ns
  rw [← e, e1] at e2; cases e2; rw [d] at d'; cases d'

theorem EnvAt.mono (R : EnvAt W env h φ ρ m) (x : Ext [] h φ h' φ') : EnvAt W env h' φ' ρ m where
  kind := R.kind
  glob := R.glob
  blt := R.blt
  ns := by obtain ⟨o, es, ep, e, r⟩ := R.ns; exact ⟨o, es, ep, x.keep _ _ e R.lφ (by simp), r⟩
  lnew := R.lnew
  lφ := by obtain ⟨o, es, ep, e, r⟩ := R.ns; exact x.notIn e R.lφ
  cell := fun n c hm => by
    obtain ⟨⟨v, o, e, d⟩, h1, h2⟩ := R.cell n c hm
    exact ⟨⟨v, o, x.keep _ _ e h2 (by simp), d⟩, h1, x.notIn e h2⟩
  apart := R.apart
  has := R.has
  val := fun i y v hρ hy => by
    obtain ⟨h1, h2⟩ := R.val i y v hρ hy
    refine ⟨fun hk => ?_, fun hk => ?_⟩
    · obtain ⟨val, a, d⟩ := h1 hk; exact ⟨val, a, d.mono x Bare.nil⟩
    · obtain ⟨c, val, a, ⟨o, e, q⟩, d⟩ := h2 hk
      exact ⟨c, val, a, ⟨o, x.keep _ _ e (R.cell y c (mem_of_lookup a)).2.2 (by simp), q⟩, d.mono x Bare.nil⟩
theorem EnvRel.mono (R : EnvRel W env h φ ρ) (x : Ext [] h φ h' φ') : EnvRel W env h' φ' ρ := let ⟨m, R⟩ := R; ⟨m, R.mono x⟩

variable {A : Around} {E : Value → Shared → Prop} {s : Shared} {σ : St}

theorem glob_mem {sc : Scope} {x : Str} (so : ScopeOk sc env) (hg : isGlob sc x = true) : env.kindOf x = some .globalImplicit := by
  have := so x
  rw [beq_iff_eq.mp hg] at this
  cases hk : env.kindOf x with
  | none => rw [hk] at this; cases this
  | some k => rw [hk] at this; cases k <;> first | rfl | cases this

theorem EnvRel.ns₀ (R : EnvRel W env s.heap φ ρ) (S : SimW W s.heap φ σ) : s.heap.Ns env.globals W.mg ∧ s.heap.Ns env.builtins W.mb := by
  obtain ⟨m, R⟩ := R
  rw [R.glob, R.blt]
  exact ⟨W.g.keeps fun b o e => (S.base b o e).1, W.b.keeps fun b o e => (S.base b o e).1⟩

theorem ld_var {sc : Scope} {x : Str} {i : Nat} {v : V} {Q : Value → Shared → Prop} (R : EnvRel W env s.heap φ ρ) (so : ScopeOk sc env) (hx : isVar sc x = true) (hi : nms[i]? = some x) (hv : ρ i = some v)
    (k : ∀ val, Den s.heap φ val v → Q val s) : wpAny (model prog w) A (loadName env x) Q E s := by
  obtain ⟨m, R⟩ := R
  have hso := so x
  unfold isVar at hx
  obtain ⟨h1, h2⟩ := R.val i x v hv hi
  cases hk : env.kindOf x with
  | none =>
    rw [hk] at hso
    split at hx <;> rename_i q <;> first | (rw [q] at hso; cases hso) | cases hx
  | some kd =>
    cases kd with
    | «local» => obtain ⟨val, a, d⟩ := h1 hk; exact wpAny_loadName_local R.kind hk R.ns a (k val d)
    | cell => obtain ⟨c, val, a, b, d⟩ := h2 (by rw [hk]; rfl); exact wpAny_loadName_cell R.kind hk a b (k val d)
    | free =>
      obtain ⟨c, val, a, b, d⟩ := h2 (by rw [hk]; rfl)
      refine wpAny_loadName_free R.kind hk a b (k val d) ?_
      have hne : ∀ y ∈ nms, (y == ("__classdict__" : Str)) = false := by decide +kernel
      exact hne x (List.mem_of_getElem? hi)
    | globalImplicit => rw [hk] at hso; split at hx <;> rename_i q <;> first | (rw [q] at hso; cases hso) | cases hx
    | globalExplicit => rw [hk] at hso; split at hx <;> rename_i q <;> first | (rw [q] at hso; cases hso) | cases hx

theorem ld_glob {sc : Scope} {x : Str} {v : Value} {Q : Value → Shared → Prop} (R : EnvRel W env s.heap φ ρ) (S : SimW W s.heap φ σ) (so : ScopeOk sc env) (hx : isGlob sc x = true) (hv : W.mg x = some v)
    (k : Q v s) {pos : Pos} (hd : (x == ("__debug__" : Str)) = false) : wpAny (model prog w) A (eval (.Name x pos) env) Q E s := by
  have := R.ns₀ S
  obtain ⟨m, R⟩ := R
  exact Calls.Name_function_global R.kind (glob_mem so hx) (Calls.loadGlobal_global this.1 hv k) hd
theorem ld_builtin {sc : Scope} {x : Str} {v : Value} {Q : Value → Shared → Prop} (R : EnvRel W env s.heap φ ρ) (S : SimW W s.heap φ σ) (so : ScopeOk sc env) (hx : isGlob sc x = true)
    (hn : W.mg x = none) (hv : W.mb x = some v)
    (k : Q v s) {pos : Pos} (hd : (x == ("__debug__" : Str)) = false) : wpAny (model prog w) A (eval (.Name x pos) env) Q E s := by
  have := R.ns₀ S
  obtain ⟨m, R⟩ := R
  exact Calls.Name_function_global R.kind (glob_mem so hx) (Calls.loadGlobal_builtin this.1 hn this.2 hv k) hd

theorem st_var {x : Str} {i : Nat} {v : V} {val : Value} {Q : Unit → Shared → Prop} (R : EnvRel W env s.heap φ ρ) (S : SimW W s.heap φ σ) (hx : storable env.scope x = true) (hi : nms[i]? = some x) (d : Den s.heap φ val v)
    (k : ∀ s', Same s s' → Ext (ownOf env) s.heap φ s'.heap φ → SimW W s'.heap φ σ → EnvRel W env s'.heap φ (upd ρ i v) → Q () s') : wpAny (model prog w) A (storeName env x val) Q E s := by
  obtain ⟨m, R⟩ := R
  have hb := R.bare
  unfold storable at hx
  split at hx
  · rename_i hk
    have hk : env.kindOf x = some .local := hk
    refine wpAny_storeName_local hk R.ns (fun h' hn hs => ?_) (by rw [R.kind]; rfl)
    have hkeep : ∀ b o, b ∉ ownOf env → s.heap.get? b = some o → h'.get? b = some o := fun b o hbn e => (hs.2 b (fun q => hbn (q ▸ List.mem_cons_self))).trans e
    obtain ⟨S', X⟩ := S.atOwn hb R.ownNew R.ownOff (fun b hb' hz => by
      obtain ⟨o, e⟩ := (S.hid b hz).2
      by_cases hbl : b = env.locals
      · obtain ⟨o', _, _, e', _⟩ := hn; exact ⟨o', hbl ▸ e'⟩
      · exact ⟨o, (hs.2 b hbl).trans e⟩) hkeep
    refine k _ ⟨rfl, rfl, rfl⟩ X S' ⟨_, R.kind, R.glob, R.blt, hn, R.lnew, R.lφ, fun n c hm => ?_, R.apart, R.has, fun j y u hj hy => ⟨fun hky => ?_, fun hky => ?_⟩⟩
    · obtain ⟨⟨u, o, e, q⟩, h1, h2⟩ := R.cell n c hm
      exact ⟨⟨u, o, (hs.2 c (R.ne hm)).trans e, q⟩, h1, h2⟩
    · by_cases hyx : y = x
      · subst hyx
        obtain rfl := nms_inj hi hy
        rw [upd_same] at hj; cases hj
        exact ⟨val, by simp, d.mono X hb⟩
      · have : j ≠ i := fun q => hyx (by subst q; rw [hi] at hy; cases hy; rfl)
        rw [upd_ne this] at hj
        obtain ⟨u', a, d'⟩ := (R.val j y u hj hy).1 hky
        exact ⟨u', by simpa [hyx] using a, d'.mono X hb⟩
    · have hyx : y ≠ x := by rintro rfl; rw [hk] at hky; cases hky
      have : j ≠ i := fun q => hyx (by subst q; rw [hi] at hy; cases hy; rfl)
      rw [upd_ne this] at hj
      obtain ⟨c, u', a, ⟨o, e, q⟩, d'⟩ := (R.val j y u hj hy).2 hky
      exact ⟨c, u', a, ⟨o, (hs.2 c (R.ne (mem_of_lookup a))).trans e, q⟩, d'.mono X hb⟩
  · rename_i hk
    have hk : env.kindOf x = some .cell := hk
    obtain ⟨c, hc⟩ := Option.isSome_iff_exists.mp (R.has x (by rw [hk]; rfl))
    obtain ⟨⟨v₀, hv₀⟩, _⟩ := R.cell x c (mem_of_lookup hc)
    refine wpAny_storeName_cell R.kind hk hc hv₀ fun h' hv hs => ?_
    have hcm : c ∈ ownOf env := List.mem_cons_of_mem _ (List.mem_map.mpr ⟨(x, c), mem_of_lookup hc, rfl⟩)
    have hkeep : ∀ b o, b ∉ ownOf env → s.heap.get? b = some o → h'.get? b = some o := fun b o hbn e => (hs.2 b (fun q => hbn (q ▸ hcm))).trans e
    obtain ⟨S', X⟩ := S.atOwn hb R.ownNew R.ownOff (fun b hb' hz => by
      obtain ⟨o, e⟩ := (S.hid b hz).2
      by_cases hbl : b = c
      · obtain ⟨o', e', _⟩ := hv; exact ⟨o', hbl ▸ e'⟩
      · exact ⟨o, (hs.2 b hbl).trans e⟩) hkeep
    refine k _ ⟨rfl, rfl, rfl⟩ X S' ⟨m, R.kind, R.glob, R.blt, ?_, R.lnew, R.lφ, fun n c' hm => ?_, R.apart, R.has, fun j y u hj hy => ⟨fun hky => ?_, fun hky => ?_⟩⟩
    · exact R.ns.sameBut hs (R.ne (mem_of_lookup hc)).symm
    · obtain ⟨⟨u, o, e, q⟩, h1, h2⟩ := R.cell n c' hm
      by_cases hcc : c' = c
      · subst hcc; exact ⟨⟨_, hv⟩, h1, h2⟩
      · exact ⟨⟨u, o, (hs.2 c' hcc).trans e, q⟩, h1, h2⟩
    · have hyx : y ≠ x := by rintro rfl; rw [hk] at hky; cases hky
      have : j ≠ i := fun q => hyx (by subst q; rw [hi] at hy; cases hy; rfl)
      rw [upd_ne this] at hj
      obtain ⟨u', a, d'⟩ := (R.val j y u hj hy).1 hky
      exact ⟨u', a, d'.mono X hb⟩
    · by_cases hyx : y = x
      · subst hyx
        obtain rfl := nms_inj hi hy
        rw [upd_same] at hj; cases hj
        exact ⟨c, val, hc, hv, d.mono X hb⟩
      · have : j ≠ i := fun q => hyx (by subst q; rw [hi] at hy; cases hy; rfl)
        rw [upd_ne this] at hj
        obtain ⟨c', u', a, b, d'⟩ := (R.val j y u hj hy).2 hky
        have hcc : c' ≠ c := fun q => hyx (name_of_addr R.apart (mem_of_lookup a) (q ▸ mem_of_lookup hc))
        exact ⟨c', u', a, b.sameBut hs hcc, d'.mono X hb⟩
  · cases hx
end
end Mine
end

section
set_option autoImplicit false
namespace Mine
open PySem PySem.W PyProof.Rows

/-! what a condition of the small language says, taken apart -/
section
variable {x y : V} {P : V → Prop} {R : V → V → Prop}
theorem intW.e {K : Int → Prop} (h : intW x K) (k : ∀ n, K n → P (.int n)) : P x := match x, h with | .int n, h => k n h
theorem boolW.e {K : Bool → Prop} (h : boolW x K) (k : ∀ n, K n → P (.bool n)) : P x := match x, h with | .bool n, h => k n h
theorem listW.e {K : List V → Prop} (h : listW x K) (k : ∀ n, K n → P (.seq false n)) : P x := match x, h with | .seq false n, h => k n h
theorem int2 {K : Int → Int → Prop} (h : intW x fun a => intW y fun b => K a b) (k : ∀ a b, K a b → R (.int a) (.int b)) : R x y := intW.e (P := fun x => R x y) h fun a h => intW.e (P := fun y => R (.int a) y) h fun b h => k a b h
theorem addW.e {K : V → Prop} (h : addW x y K) (k1 : ∀ a b, K (.int (a + b)) → R (.int a) (.int b)) (k2 : ∀ xs ys, xs.length + ys.length ≤ LIM → K (.seq false (xs ++ ys)) → R (.seq false xs) (.seq false ys)) : R x y := by
  cases x with
  | int a => exact intW.e h (k1 a)
  | seq t xs =>
    cases t with
    | false => exact listW.e h fun ys h => by unfold addL at h; exact k2 xs ys h.1 h.2
    | true => exact h.elim
  | _ => exact h.elim
theorem mulW.e {K : V → Prop} (h : mulW x y K) (k1 : ∀ a b, (word a || word b) = true → K (.int (a * b)) → R (.int a) (.int b)) (k2 : ∀ xs b, xs.length * b.toNat ≤ LIM → 0 ≤ b → b < 1000 → K (.seq false (rep b.toNat xs)) → R (.seq false xs) (.int b)) : R x y := by
  refine intW.e (P := fun y => R x y) h fun b h => ?_
  cases x with
  | int a => exact k1 a b h.1 h.2
  | seq t xs =>
    cases t with
    | false => unfold mulL at h; exact k2 xs b h.1.1 h.1.2.1 h.1.2.2 h.2
    | true => exact h.elim
  | _ => exact h.elim
theorem eqW.e {K : Bool → Prop} (h : eqW x y K) (k1 : ∀ a b, K (decide (a = b)) → R (.int a) (.int b)) (k2 : ∀ a b, K (decide (a = b)) → R (.seq false (iv a)) (.seq false (iv b))) : R x y := by
  cases x with
  | int a => exact intW.e h (k1 a)
  | seq t xs =>
    cases t with
    | false => exact listW.e h fun ys h => by unfold eqL at h; obtain ⟨a, b, rfl, rfl, h⟩ := h; exact k2 a b h
    | true => exact h.elim
  | _ => exact h.elim
theorem inW.e {σ : St} {K : Bool → Prop} (h : inW σ x y K) (k1 : ∀ a t b, K (decide (a ∈ b)) → R (.int a) (.seq t (iv b))) (k2 : ∀ a r es, σ[r]? = some (.dict es) → es.all (·.1.isI) = true → K (look (.i a) es).isSome → R (.int a) (.ref r))
    (k3 : ∀ a b, K (decide (a ∈ b)) → R (.seq false (iv a)) (.seq false (lv b))) : R x y := by
  cases x with
  | int a =>
    cases y with
    | seq t ys => replace h : inI a ys K := h; unfold inI at h; obtain ⟨b, rfl, h⟩ := h; exact k1 a t b h
    | ref r => replace h : inD σ a r K := h; unfold inD at h; obtain ⟨es, e, i, h⟩ := h; exact k2 a r es e i h
    | _ => exact h.elim
  | seq t xs =>
    cases t with
    | false => exact listW.e h fun ys h => by unfold inL at h; obtain ⟨a, b, rfl, rfl, h⟩ := h; exact k3 a b h
    | true => exact h.elim
  | _ => exact h.elim
end

/-! what a value of the small language stands for, taken apart -/
section
variable [Hid] {h : Heap} {φ : Phi} {a : Value} {P : Value → Prop}
@[elab_as_elim] theorem Den.intE {P : Value → Prop} {n : Int} (d : Den h φ a (.int n)) (k : ∀ t, P (.int n t)) : P a := by cases d; exact k _
@[elab_as_elim] theorem Den.boolE {P : Value → Prop} {n : Bool} (d : Den h φ a (.bool n)) (k : P (.bool n)) : P a := by cases d; exact k
@[elab_as_elim] theorem Den.listE {P : Value → Prop} {xs : List V} (d : Den h φ a (.seq false xs)) (k : ∀ r items, h.IsList r items → Off φ r → items.size ≤ sizeLine → Dens h φ items.toList xs → P (.ref r)) : P a := by cases d with | list l o z d => exact k _ _ l o z d
@[elab_as_elim] theorem Den.tupE {P : Value → Prop} {xs : List V} (d : Den h φ a (.seq true xs)) (k : ∀ r items, h.IsTuple r items → Off φ r → items.size ≤ sizeLine → Dens h φ items.toList xs → P (.ref r)) : P a := by cases d with | tup l o z d => exact k _ _ l o z d
@[elab_as_elim] theorem Den.refE {P : Value → Prop} {i : Nat} (d : Den h φ a (.ref i)) (k : ∀ r, φ[i]? = some r → P (.ref r)) : P a := by cases d with | ref e => exact k _ e
theorem Dens.len {items : Array Value} {xs : List V} (d : Dens h φ items.toList xs) : items.size = xs.length := by rw [← d.length, Array.length_toList]
end

section
variable [Hid]
variable {prog : Program} {w : World} {W : Wd prog w}
variable {A : Around} {s s' : Shared} {φ : Phi} {σ σ' : St} {Q : V → St → Prop}

noncomputable def No : Value → Shared → Prop := fun _ _ => False

inductive GotQ (W : Wd prog w) (s : Shared) (φ : Phi) (Q : V → St → Prop) (val : Value) (s' : Shared) : Prop
  | mk (φ' : Phi) (v : V) (σ' : St) (same : Same s s') (ext : Ext [] s.heap φ s'.heap φ') (sim : SimW W s'.heap φ' σ') (den : Den s'.heap φ' val v) (q : Q v σ') : GotQ W s φ Q val s'
inductive GotL (W : Wd prog w) (s : Shared) (φ : Phi) (Q : List V → St → Prop) (vals : List Value) (s' : Shared) : Prop
  | mk (φ' : Phi) (vs : List V) (σ' : St) (same : Same s s') (ext : Ext [] s.heap φ s'.heap φ') (sim : SimW W s'.heap φ' σ') (den : Dens s'.heap φ' vals vs) (q : Q vs σ') : GotL W s φ Q vals s'
inductive GotB (W : Wd prog w) (s : Shared) (φ : Phi) (K : Bool → St → Prop) (b : Bool) (s' : Shared) : Prop
  | mk (φ' : Phi) (σ' : St) (same : Same s s') (ext : Ext [] s.heap φ s'.heap φ') (sim : SimW W s'.heap φ' σ') (q : K b σ') : GotB W s φ K b s'
inductive GotU (W : Wd prog w) (s : Shared) (φ : Phi) (Q : St → Prop) (u : Unit) (s' : Shared) : Prop
  | mk (φ' : Phi) (σ' : St) (same : Same s s') (ext : Ext [] s.heap φ s'.heap φ') (sim : SimW W s'.heap φ' σ') (q : Q σ') : GotU W s φ Q u s'

theorem GotQ.tok (S : SimW W s.heap φ σ) {val : Value} {v : V} {t : Nat} (d : Den s.heap φ val v) (q : Q v σ) : GotQ W s φ Q val { s with toks := t } :=
  .mk φ v σ ⟨rfl, rfl, rfl⟩ (Ext.refl _ _ _) S d q
theorem GotQ.here (S : SimW W s.heap φ σ) {val : Value} {v : V} (d : Den s.heap φ val v) (q : Q v σ) : GotQ W s φ Q val s :=
  .mk φ v σ ⟨rfl, rfl, rfl⟩ (Ext.refl _ _ _) S d q
theorem GotQ.grown (S : SimW W s.heap φ σ) {val : Value} {v : V} (hS : Same s s') (hk : ∀ b o, s.heap.get? b = some o → s'.heap.get? b = some o) (d : Den s'.heap φ val v) (q : Q v σ) : GotQ W s φ Q val s' :=
  .mk φ v σ hS (Ext.all hk) (S.keep hk) d q

theorem off_dead {h : Heap} (S : SimW W h φ σ) {a : Addr} (ha : h.get? a = none) : Off φ a := by
  constructor
  · intro hm
    obtain ⟨o, e⟩ := S.alive hm
    rw [ha] at e; cases e
  · intro hz
    obtain ⟨_, o, e⟩ := S.hid a hz
    rw [ha] at e; cases e
theorem dead (h : Heap) : h.get? h.objs.size = none := Heap.get?_none_of_le (Nat.le_refl _)
theorem dead_of {h h' : Heap} {a : Addr} (hk : ∀ b o, h.get? b = some o → h'.get? b = some o) (ha : h'.get? a = none) : h.get? a = none := by
  cases e : h.get? a with
  | none => rfl
  | some o => rw [hk a o e] at ha; cases ha

theorem Ext.pushed {own : List Addr} {h h' : Heap} {a : Addr} (ha : h.get? a = none) (hk : ∀ b o, h.get? b = some o → h'.get? b = some o) : Ext own h φ h' (φ ++ [a]) :=
  ⟨List.prefix_append .., fun b hb => by rcases List.mem_append.mp hb with h1 | h1; exact .inl h1; exact .inr (by simp at h1; rw [h1]; exact ha), fun b o e _ _ => hk b o e⟩

theorem placed (S : SimW W s.heap φ σ) (hs : Same s s') (hk : ∀ b o, s.heap.get? b = some o → s'.heap.get? b = some o) {a : Addr} (ha : s.heap.get? a = none) {items : Array Value} {xs : List V}
    (hl : s'.heap.PlainList a items) (hz : items.size ≤ sizeLine) (d : Dens s.heap φ items.toList xs) {mt : Bool} (e : placeW mt (.seq false xs) σ Q) : GotQ W s φ Q (.ref a) s' := by
  cases mt with
  | false => exact .grown S hs hk (.list hl.isList (off_dead S ha) hz (d.mono (Ext.all (own := []) hk) Bare.nil)) e
  | true =>
    obtain ⟨S', X⟩ := S.push (own := []) (o := .list xs) ha hk ⟨items, hl, hz, d.mono (Ext.pushed (own := []) ha hk) Bare.nil⟩
    exact .mk _ _ _ hs X S' (.ref (by rw [← S.len]; simp)) e

theorem lt_of_list {h : Heap} {a : Addr} {items : Array Value} (x : h.IsList a items) : a < h.objs.size := let ⟨_, e, _⟩ := x; Heap.lt_size e

theorem mul_ok {a b : Int} (h : (word a || word b) = true) : IntMulOk a b := by
  simp only [word, Bool.or_eq_true, Bool.and_eq_true, decide_eq_true_eq] at h
  rcases h with h | h
  · exact .of_left (intBits_le_64 h.1 h.2)
  · exact .of_right (intBits_le_64 h.1 h.2)

theorem push_list {xs : List Value} {h : Heap} : (h.push { cls := .type "list", data := .seq xs.toArray }).PlainList h.objs.size xs.toArray := ⟨0, Heap.get?_push_size _ rfl⟩
theorem keep_push {h : Heap} (o : Obj) : ∀ b o', h.get? b = some o' → (h.push o).get? b = some o' := fun _ _ e => Heap.get?_push_of_some _ e

theorem add_lists' {l b : Addr} {its its2 : Array Value} {E : Value → Shared → Prop} {Q : Value → Shared → Prop} (hl : s.heap.IsList l its) (hb : s.heap.IsList b its2) (hz : its.size + its2.size ≤ sizeLine)
    (h : Q (.ref s.heap.objs.size) { s with heap := s.heap.push { cls := .type "list", data := .seq (its ++ its2) } }) : wpAny (model prog w) A (binaryOp .Add (.ref l) (.ref b)) Q E s := by
  obtain ⟨⟨c, d, dt, sl⟩, ho, hc, n, hd⟩ := id hl
  obtain ⟨⟨c2, d2, dt2, sl2⟩, ho2, hc2, n2, hd2⟩ := id hb
  simp only at hc hd hc2 hd2
  subst hc hd hc2 hd2
  exact concat_meets ⟨_, ho, rfl⟩ ⟨_, ho2, rfl⟩ noFill_list_add seq_list_add PySem.F.slot_list_add PySem.F.entry_list_add (PySem.F.args_list_add_2 _ _) (list_addW l b its its2 n n2 d d2 sl sl2 hz) ⟨ho, ho2, h⟩

theorem rep_list' {l : Addr} {its : Array Value} {x : Int} {u : Tok} {E : Value → Shared → Prop} {Q : Value → Shared → Prop} (hl : s.heap.IsList l its) (hlo : -(2 ^ 63 : Int) ≤ x) (hhi : x < 2 ^ 63) (hz : its.size * x.toNat ≤ 2 ^ 24)
    (h : Q (.ref s.heap.objs.size) { s with heap := s.heap.push { cls := .type "list", data := .seq (List.replicate x.toNat its.toList).flatten.toArray } }) : wpAny (model prog w) A (binaryOp .Mult (.ref l) (.int x u)) Q E s := by
  obtain ⟨⟨c, d, dt, sl⟩, ho, hc, n, hd⟩ := id hl
  simp only at hc hd
  subst hc hd
  rw [← listMul_foldl_if] at h
  exact wpAny_binaryOp_repeat_ref (T := "list") (U := "int") (by decide) ⟨_, ho, rfl⟩ (fun s' => typeIs_int s' x u) noFill_list_mul F.fills_int_mul F.slot_int_rmul repeat_list F.slot_int_index.lookup
    (call_meets F.slot_int_rmul (typeIs_int s x u) F.entry_int_rmul (F.args_int_rmul_2 _ _) (lm_int_rmul_list_any x u l its n d sl)
      ⟨ho, rfl, ⟨_, ho, rfl⟩, call_meets F.slot_list_mul ⟨_, ho, rfl⟩ F.entry_list_mul (F.args_list_mul_2 _ _)
        (lm_list_mul_any l its n d sl x u (by simp [Builtin.List.listFitsIndex]; omega) (by omega) (by simp [Builtin.List.listTooLong, sizeLine]; omega)) ⟨ho, h⟩⟩)

theorem rep_length (xs : List V) : ∀ n, (rep n xs).length = xs.length * n
  | 0 => rfl
  | n + 1 => by rw [rep, List.length_append, rep_length xs n, Nat.mul_succ]; omega


theorem snd_rep {n : Int} {a b : Value} {mt : Bool} (S : SimW W s.heap φ σ) {xs : List V} (dx : Den s.heap φ a (.seq false xs)) (dy : Den s.heap φ b (.int n))
    (hz : xs.length * n.toNat ≤ LIM) (h0 : 0 ≤ n) (hn : n < 1000) {E : Value → Shared → Prop}
    (e : placeW mt (.seq false (rep n.toNat xs)) σ Q) : wpAny (model prog w) A (binaryOp .Mult a b) (GotQ W s φ Q) E s := by
  refine dy.intE fun t => dx.listE fun r items hl ha hsz d => ?_
  have hlen : (rep n.toNat xs).length ≤ LIM := by rw [rep_length]; exact hz
  have d2 := d.rep n.toNat
  have hdl := d2.length
  have hl1 := d.len
  refine rep_list' hl (Int.le_trans (by decide) h0) (Int.lt_trans hn (by decide)) (by rw [hl1]; exact Nat.le_trans hz (by decide)) ?_
  refine placed S ?_ (keep_push _) (dead _) push_list (by rw [List.size_toArray, hdl]; exact Nat.le_trans hlen (by decide)) (by simpa using d2) e
  exact ⟨rfl, rfl, rfl⟩

noncomputable def opOf : BO → Operator
  | .add => .Add | .sub => .Sub | .mul => .Mult | .fdiv => .FloorDiv | .mod => .Mod
theorem opOf_eq {op : Operator} {o : BO} (h : compOp op = some o) : op = opOf o := by cases op <;> cases h <;> rfl
theorem snd_binop {o : BO} {x y : V} {a b : Value} (S : SimW W s.heap φ σ) (dx : Den s.heap φ a x) (dy : Den s.heap φ b y) (ev : binW o x y fun v => Q v σ) (hh : A.handled = none) :
    wpAny (model prog w) A (binaryOp (opOf o) a b) (GotQ W s φ Q) No s := by
  revert dx dy
  cases o with
  | add =>
    have ev : addW x y fun v => Q v σ := ev
    refine addW.e (R := fun x y => Den s.heap φ a x → Den s.heap φ b y → _) ev (fun n m q dx dy => ?_) fun xs ys hz q dx dy => ?_
    · exact dx.intE fun t => dy.intE fun u => P.add_int (.tok S (.int _ _) q)
    · refine dx.listE fun r1 i1 hl1 ha1 hz1 d1 => dy.listE fun r2 i2 hl2 ha2 hz2 d2 => ?_
      have hz : (i1 ++ i2).size ≤ sizeLine := by rw [Array.size_append, d1.len, d2.len]; exact Nat.le_trans hz (by decide)
      refine add_lists' hl1 hl2 (by rw [← Array.size_append]; exact hz) (.grown S ⟨rfl, rfl, rfl⟩ (keep_push _) (.list ⟨_, Heap.get?_push_size _ rfl, rfl, 0, rfl⟩ (off_dead S (dead _)) hz ?_) q)
      rw [Array.toList_append]; exact (d1.append d2).mono (Ext.all (keep_push _)) Bare.nil
  | sub => exact int2 (R := fun x y => Den s.heap φ a x → Den s.heap φ b y → _) ev fun n m q dx dy => dx.intE fun t => dy.intE fun u => P.sub_int (.tok S (.int _ _) q)
  | mul =>
    have ev : mulW x y fun v => Q v σ := ev
    refine mulW.e (R := fun x y => Den s.heap φ a x → Den s.heap φ b y → _) ev (fun n m hw q dx dy => ?_) fun xs n hz h0 hn q dx dy => ?_
    · exact dx.intE fun t => dy.intE fun u => P.mul_int (.tok S (.int _ _) q) (mul_ok hw)
    · exact snd_rep (mt := false) S dx dy hz h0 hn q
  | fdiv =>
    refine int2 (R := fun x y => Den s.heap φ a x → Den s.heap φ b y → _) ev fun n m q dx dy => dx.intE fun t => dy.intE fun u => ?_
    obtain ⟨⟨h0, h1⟩, q⟩ := q
    refine floordiv_int (Int.ne_of_gt h0) ?_ (.inl (PyProof.noPylong_of_log2 ?_))
    · rw [Int.fdiv_eq_ediv_of_nonneg _ (Int.le_of_lt h0)]; exact .tok S (.int _ _) q
    · have : m.natAbs.log2 < 64 := (Nat.log2_lt (by omega)).mpr (by omega)
      omega
  | mod =>
    refine int2 (R := fun x y => Den s.heap φ a x → Den s.heap φ b y → _) ev fun n m q dx dy => dx.intE fun t => dy.intE fun u => ?_
    refine mod_int' (Int.ne_of_gt q.1) ?_
    rw [Int.fmod_eq_emod_of_nonneg _ (Int.le_of_lt q.1)]; exact .tok S (.int _ _) q.2
end
end Mine
end

section
set_option autoImplicit false
namespace Mine
open PySem PySem.W PyProof.Rows

section
variable [Hid]
variable {prog : Program} {w : World} {W : Wd prog w}
variable {A : Around} {s : Shared} {φ : Phi} {σ σ' : St} {E : Value → Shared → Prop} {Q : V → St → Prop}

theorem Sim.at {h : Heap} (S : SimW W h φ σ) {r : Nat} {a : Addr} {o : MO} (hr : φ[r]? = some a) (ho : σ[r]? = some o) : MDen prog w W.C h φ a o := by
  obtain ⟨a', h1, m⟩ := S.obj r o ho
  rw [hr] at h1; cases h1; exact m

theorem Dens.reads {h : Heap} {ns : List Int} {vs : List Value} (d : Dens h φ vs (ns.map .int)) : ReadsAll h vs (ns.map .int) [] := by
  induction ns generalizing vs with
  | nil => cases d; exact .nil
  | cons n ns ih => cases d with | cons a r => cases a; exact .cons (.int _ _) (ih r)
theorem Den.readsL {h : Heap} {ns : List Int} {v : Value} (d : Den h φ v (.seq false (ns.map .int))) : ∃ as, Reads h v (.list (ns.map .int)) as := by
  cases d with
  | list l ha hz d => obtain ⟨o, e, c, n, q⟩ := l; exact ⟨_, .list e c q d.reads⟩
theorem Dens.readsL {h : Heap} {ns : List (List Int)} {vs : List Value} (d : Dens h φ vs (ns.map fun l => .seq false (l.map .int))) : ∃ as, ReadsAll h vs (ns.map fun l => .list (l.map .int)) as := by
  induction ns generalizing vs with
  | nil => cases d; exact ⟨_, .nil⟩
  | cons n ns ih =>
    cases d with
    | cons a r =>
      obtain ⟨as, ra⟩ := a.readsL
      obtain ⟨bs, rb⟩ := ih r
      exact ⟨_, .cons ra rb⟩
theorem can_ints (ns : List Int) : PyData.canLayAll0 (ns.map .int) = true := by
  induction ns with
  | nil => rfl
  | cons n r ih => simp [PyData.canLayAll0, PyData.canLay0, ih]
theorem can_intss (ns : List (List Int)) : PyData.canLayAll0 (ns.map fun l => .list (l.map .int)) = true := by
  induction ns with
  | nil => rfl
  | cons n r ih => simp [PyData.canLayAll0, PyData.canLay0, ih, can_ints]
theorem eqvAll_ints : ∀ (a b : List Int), PyData.eqvAll (a.map .int) (b.map .int) = decide (a = b)
  | [], [] => by simp [PyData.eqvAll]
  | [], _ :: _ => by simp [PyData.eqvAll]
  | _ :: _, [] => by simp [PyData.eqvAll]
  | x :: xs, y :: ys => by
    simp only [List.map_cons, PyData.eqvAll, eqvAll_ints xs ys, PyData.eqv, List.cons.injEq]
    by_cases h1 : x = y <;> by_cases h2 : xs = ys <;> simp [h1, h2]
theorem any_ints (x : Int) (b : List Int) : ((b.map PyData.int).any fun y => PyData.eqv y (.int x)) = decide (x ∈ b) := by
  induction b with
  | nil => simp
  | cons y ys ih =>
    simp only [List.map_cons, List.any_cons, ih, PyData.eqv, List.mem_cons]
    by_cases h1 : x = y
    · simp [h1]
    · have : ¬ y = x := fun e => h1 e.symm
      simp [h1, this]
theorem any_intss (x : List Int) (b : List (List Int)) : ((b.map fun l => PyData.list (l.map .int)).any fun y => PyData.eqv y (.list (x.map .int))) = decide (x ∈ b) := by
  induction b with
  | nil => simp
  | cons y ys ih =>
    simp only [List.map_cons, List.any_cons, ih, PyData.eqv, List.mem_cons, eqvAll_ints]
    by_cases h1 : x = y
    · simp [h1]
    · have : ¬ y = x := fun e => h1 e.symm
      simp [h1, this]
theorem depth_ints (ns : List Int) : PyData.depthAll (ns.map .int) ≤ 1 := by
  induction ns with
  | nil => exact Nat.zero_le _
  | cons n r ih => simp only [List.map_cons, PyData.depthAll, PyData.depth]; omega
theorem depth_intss (ns : List (List Int)) : PyData.depthAll (ns.map fun l => .list (l.map .int)) ≤ 2 := by
  induction ns with
  | nil => exact Nat.zero_le _
  | cons n r ih => have := depth_ints n; simp only [List.map_cons, PyData.depthAll, PyData.depth]; omega

theorem iK_is (n : Int) (t : Tok) : (iK prog w).is n (.int n t) = true := by simp [iK, intKind, Value.isInt]

theorem look_i {h : Heap} {kvs : List (Int × Value)} {es : List (K × V)} (d : All2 (fun (x : Int × Value) (e : K × V) => e.1 = .i x.1 ∧ Den h φ x.2 e.2) kvs es) (k : Int) :
    (match look (.i k) es with | some v => ∃ val, valueAt kvs k = some val ∧ Den h φ val v | none => valueAt kvs k = none) := by
  induction d with
  | nil => rfl
  | @cons x e kvs es p _ ih =>
    obtain ⟨j, v⟩ := e
    obtain ⟨h1, h2⟩ := p
    obtain rfl : j = .i x.1 := h1
    unfold look
    by_cases hk : x.1 = k
    · subst hk
      simp only [if_true]
      exact ⟨x.2, by simp [valueAt], h2⟩
    · have hne : ¬ (K.i x.1 = K.i k) := fun e => hk (K.i.inj e)
      simp only [if_neg hne]
      have e : valueAt (x :: kvs) k = valueAt kvs k := by simp [valueAt, List.find?_cons, hk]
      rw [e]; exact ih
theorem look_some {h : Heap} {kvs : List (Int × Value)} {es : List (K × V)} (ha : All2 (fun (x : Int × Value) (e : K × V) => e.1 = .i x.1 ∧ Den h φ x.2 e.2) kvs es) (n : Int) : (valueAt kvs n).isSome = (look (.i n) es).isSome := by
  have := look_i ha n
  split at this
  · rename_i v hv; obtain ⟨val, h1, _⟩ := this; rw [h1, hv]; rfl
  · rename_i hv; rw [this, hv]; rfl

structure Room (A : Around) (n : Nat) : Prop where
  handled : A.handled = none
  depth : A.depth + 2 * n ≤ 900
  units : A.units + 40 * n + 200 ≤ 9900

theorem Room.cline {A : Around} {n : Nat} (R : Room A n) (k : Nat) (hk : k ≤ 100 := by decide) : A.units + k < cLine := by have := R.units; unfold cLine; omega

noncomputable def cmpOf : CO → CmpOp
  | .eq => .Eq | .ne => .NotEq | .lt => .Lt | .le => .LtE | .gt => .Gt | .ge => .GtE | .isin => .In | .notin => .NotIn
theorem cmpOf_eq {op : CmpOp} {o : CO} (h : compCmp op = some o) : op = cmpOf o := by cases op <;> cases h <;> rfl
theorem can_list (a : List Int) : PyData.canLay0 (.list (a.map .int)) = true := by rw [PyData.canLay0]; exact can_ints _
theorem int_ne (i j : Int) : (i != j) = !decide (i = j) := by simp only [bne, Bool.beq_eq_decide_eq i j]
theorem snd_neK {n : Nat} (R : Room A n) {K : Bool → Prop} {PP : Value → Shared → Prop} {x y : V} {a b : Value} (dx : Den s.heap φ a x) (dy : Den s.heap φ b y) (ev : eqW x y fun r => K (!r)) (k : ∀ r, K r → PP (.bool r) s) :
    wpAny (model prog w) A (compareOp .NotEq a b) PP E s := by
  have hu := R.units
  revert dx dy
  refine eqW.e (R := fun x y => Den s.heap φ a x → Den s.heap φ b y → _) ev (fun n m q dx dy => dx.intE fun t => dy.intE fun u => P.ne_int (by rw [int_ne]; exact k _ q)) fun ns ms q dx dy => ?_
  obtain ⟨as, ra⟩ := dx.readsL
  obtain ⟨bs, rb⟩ := dy.readsL
  have d1 := depth_ints ns
  refine SeqAt.compareNe_reads ra rb (can_list _) (can_list _) (by simp only [PyData.depth]; unfold cLine; omega) ?_
  rw [PyData.eqv, eqvAll_ints]; exact k _ q
theorem snd_cmp {n : Nat} (R : Room A n) {o : CO} {x y : V} {a b : Value} (S : SimW W s.heap φ σ) (dx : Den s.heap φ a x) (dy : Den s.heap φ b y) (ev : cmpW σ o x y fun r => Q (.bool r) σ) :
    wpAny (model prog w) A (compareOp (cmpOf o) a b) (GotQ W s φ Q) E s := by
  have hu := R.units
  have rm : A.units + 200 ≤ 9900 := by omega
  revert dx dy
  have ieq : ∀ i j : Int, (i == j) = decide (i = j) := fun i j => Bool.beq_eq_decide_eq i j
  have here : ∀ {r : Bool}, Q (.bool r) σ → GotQ W s φ Q (.bool r) s := fun q => .here S (.bool _) q
  cases o with
  | eq =>
    have ev : eqW x y fun r => Q (.bool r) σ := ev
    refine eqW.e (R := fun x y => Den s.heap φ a x → Den s.heap φ b y → _) ev (fun n m q dx dy => dx.intE fun t => dy.intE fun u => P.eq_int (by rw [ieq]; exact here q)) fun ns ms q dx dy => ?_
    obtain ⟨as, ra⟩ := dx.readsL
    obtain ⟨bs, rb⟩ := dy.readsL
    have d1 := depth_ints ns
    refine SeqAt.compareEq_reads ra rb (can_list _) (can_list _) (by simp only [PyData.depth]; unfold cLine; omega) ?_
    rw [PyData.eqv, eqvAll_ints]; exact here q
  | ne => exact fun dx dy => snd_neK (K := fun r => Q (.bool r) σ) R dx dy ev fun r q => here q
  | lt => exact int2 (R := fun x y => Den s.heap φ a x → Den s.heap φ b y → _) ev fun n m q dx dy => dx.intE fun t => dy.intE fun u => P.lt_int (here q)
  | le => exact int2 (R := fun x y => Den s.heap φ a x → Den s.heap φ b y → _) ev fun n m q dx dy => dx.intE fun t => dy.intE fun u => P.le_int (here q)
  | gt => exact int2 (R := fun x y => Den s.heap φ a x → Den s.heap φ b y → _) ev fun n m q dx dy => dx.intE fun t => dy.intE fun u => P.gt_int (here q)
  | ge => exact int2 (R := fun x y => Den s.heap φ a x → Den s.heap φ b y → _) ev fun n m q dx dy => dx.intE fun t => dy.intE fun u => P.ge_int (here q)
  | isin =>
    have ev : inW σ x y fun r => Q (.bool r) σ := ev
    refine inW.e (R := fun x y => Den s.heap φ a x → Den s.heap φ b y → _) ev (fun n t ns q dx dy => dx.intE fun u => ?k1) (fun n r es e1 hi q dx dy => dx.intE fun u => dy.refE fun r' hr => ?k2) fun ns ms q dx dy => ?k3
    case k1 =>
      have d1 := depth_ints ns
      have fin : GotQ W s φ Q (.bool ((ns.map PyData.int).any fun y => PyData.eqv y (.int n))) s := by rw [any_ints]; exact here q
      cases t with
      | false => exact dy.listE fun r items ⟨o, e, c, k, l⟩ _ _ d => SeqAt.in_list_reads (.list e c l d.reads) (.int _ _) (can_ints _) rfl (by simp only [PyData.depth]; unfold cLine; omega) fin
      | true => exact dy.tupE fun r items ⟨o, e, c, k, l⟩ _ _ d => SeqAt.in_tuple_reads (.tuple e c l d.reads) (.int _ _) (can_ints _) rfl (by simp only [PyData.depth]; unfold cLine; omega) fin
    case k2 =>
      obtain ⟨hsys, _, m1, _⟩ := S.at hr e1
      obtain ⟨kvs, hm, hf⟩ := m1 hi
      refine wpAny_in_of (knd := iK prog w) (iK_is _ _) hsys hm.mapOf ?_
      rw [look_some hf]
      exact .tok S (.bool _) q
    case k3 =>
      obtain ⟨as, ra⟩ := dx.readsL
      have d1 := depth_ints ns
      refine dy.listE fun r items ⟨o, e, c, k, l⟩ _ _ d => ?_
      obtain ⟨bs, rb⟩ := d.readsL
      refine SeqAt.in_list_reads (.list e c l rb) ra (can_intss _) (can_list _) (by simp only [PyData.depth]; unfold cLine; omega) ?_
      rw [any_intss]; exact here q
  | notin =>
    have ev : inW σ x y fun r => Q (.bool (!r)) σ := ev
    refine inW.e (R := fun x y => Den s.heap φ a x → Den s.heap φ b y → _) ev (fun n t ns q dx dy => dx.intE fun u => ?k1) (fun n r es e1 hi q dx dy => dx.intE fun u => dy.refE fun r' hr => ?k2) fun ns ms q dx dy => ?k3
    case k1 =>
      have d1 := depth_ints ns
      have fin : GotQ W s φ Q (.bool (!((ns.map PyData.int).any fun y => PyData.eqv y (.int n)))) s := by rw [any_ints]; exact here q
      cases t with
      | false => exact dy.listE fun r items ⟨o, e, c, k, l⟩ _ _ d => SeqAt.notIn_list_reads (.list e c l d.reads) (.int _ _) (can_ints _) rfl (by simp only [PyData.depth]; unfold cLine; omega) fin
      | true => exact dy.tupE fun r items ⟨o, e, c, k, l⟩ _ _ d => SeqAt.notIn_tuple_reads (.tuple e c l d.reads) (.int _ _) (can_ints _) rfl (by simp only [PyData.depth]; unfold cLine; omega) fin
    case k2 =>
      obtain ⟨hsys, _, m1, _⟩ := S.at hr e1
      obtain ⟨kvs, hm, hf⟩ := m1 hi
      refine wpAny_notIn_of (knd := iK prog w) (iK_is _ _) hsys hm.mapOf ?_
      rw [look_some hf]
      exact .tok S (.bool _) q
    case k3 =>
      obtain ⟨as, ra⟩ := dx.readsL
      have d1 := depth_ints ns
      refine dy.listE fun r items ⟨o, e, c, k, l⟩ _ _ d => ?_
      obtain ⟨bs, rb⟩ := d.readsL
      refine SeqAt.notIn_list_reads (.list e c l rb) ra (can_intss _) (can_list _) (by simp only [PyData.depth]; unfold cLine; omega) ?_
      rw [any_intss]; exact here q
end
end Mine
end

section
set_option autoImplicit false
namespace Mine
open PySem PySem.W PyProof.Rows

section
variable [Hid]
variable {prog : Program} {w : World} {W : Wd prog w}
variable {A : Around} {s : Shared} {φ : Phi} {σ σ' : St} {E : Value → Shared → Prop} {Q : V → St → Prop}

theorem snd_isNone {op : CmpOp} {pos : Bool} {a : Value} {x : V} (ho : (op = .Is ∧ pos = true) ∨ (op = .IsNot ∧ pos = false)) (S : SimW W s.heap φ σ) (dx : Den s.heap φ a x) (ev : nilW x (Q (.bool pos) σ) (Q (.bool (!pos)) σ)) :
    wpAny (model prog w) A (compareOp op a .none) (GotQ W s φ Q) E s := by
  rcases ho with ⟨rfl, rfl⟩ | ⟨rfl, rfl⟩
  · cases dx with
    | nul => exact is_none_none (.here S (.bool _) ev)
    | _ => exact is_none_ne nofun (.here S (.bool _) ev)
  · cases dx with
    | nul => exact isnot_none_none (.here S (.bool _) ev)
    | _ => exact isnot_none_ne nofun (.here S (.bool _) ev)

noncomputable abbrev IsSeq (h : Heap) (l : Addr) (items : Array Value) : Prop := h.IsList l items ∨ h.IsTuple l items
@[elab_as_elim] theorem items_of {P : Value → Prop} {h : Heap} (S : SimW W h φ σ) {a : Value} {x : V} (d : Den h φ a x) {K : List V → Prop} (e : itemsW σ x K)
    (k : ∀ l items xs, IsSeq h l items → items.size ≤ sizeLine → Dens h φ items.toList xs → K xs → P (.ref l)) : P a := by
  cases x with
  | seq t xs =>
    cases t with
    | false => exact d.listE fun r items l _ z d => k _ _ _ (.inl l) z d e
    | true => exact d.tupE fun r items l _ z d => k _ _ _ (.inr l) z d e
  | ref r =>
    obtain ⟨ys, q, e⟩ := e
    refine d.refE fun r hr => ?_
    obtain ⟨items, hl, hz, d⟩ := S.at hr q
    exact k _ _ _ (.inl hl.isList) hz d e
  | _ => exact e.elim

theorem idx_lt {n : Nat} {i : Int} {j : Nat} (h : idxOf n i = some j) : j < n ∧ ((0 ≤ i ∧ i < n ∧ j = i.toNat) ∨ (i < 0 ∧ -(n : Int) ≤ i ∧ j = (i + n).toNat)) := by
  unfold idxOf at h
  by_cases h1 : 0 ≤ i ∧ i < n
  · rw [if_pos h1] at h; cases h
    exact ⟨(Int.toNat_lt h1.1).mpr h1.2, .inl ⟨h1.1, h1.2, rfl⟩⟩
  · rw [if_neg h1] at h
    by_cases h2 : -(n : Int) ≤ i ∧ i < 0
    · rw [if_pos h2] at h; cases h
      have h0 : 0 ≤ i + n := by have := h2.1; omega
      exact ⟨(Int.toNat_lt h0).mpr (by have := h2.2; omega), .inr ⟨h2.2, h2.1, rfl⟩⟩
    · rw [if_neg h2] at h; cases h

theorem getItem_seq {l : Addr} {items : Array Value} {i : Int} {t : Tok} {j : Nat} {v : Value} {Q : Value → Shared → Prop} (hl : s.heap.IsList l items ∨ s.heap.IsTuple l items) (hz : items.size ≤ sizeLine) (hi : idxOf items.size i = some j)
    (hv : items[j]? = some v) (h : Q v s) : wpAny (model prog w) A (getItem (.ref l) (.int i t)) Q E s := by
  obtain ⟨hj, h1⟩ := idx_lt hi
  rw [sizeLine] at hz
  rcases hl with hl | hl
  · rcases h1 with ⟨a, b, c⟩ | ⟨a, b, c⟩
    · exact wpAny_getItem_list hl a (by omega) (c ▸ hv) h
    · exact wpAny_getItem_list_neg hl a b (by omega) (c ▸ hv) h
  · refine getItem_tuple hl (by omega) (by omega) ?_ hv h
    rcases h1 with ⟨a, b, c⟩ | ⟨a, b, c⟩
    · have hn : ¬ i < 0 := by omega
      unfold seqIndex?
      simp only [hn, if_false]
      rw [if_pos (by simp only [Bool.and_eq_true, decide_eq_true_eq]; omega), c]
    · rw [seqIndex_neg a b, c]

theorem keyW.e {x : V} {P : V → Prop} {K : K → Prop} (h : keyW x K) (k1 : ∀ n, K (.i n) → P (.int n)) (k2 : ∀ ns, K (.t ns) → P (.seq true (iv ns))) : P x := by
  cases x with
  | int n => exact k1 n h
  | seq t xs =>
    cases t with
    | true => obtain ⟨ns, rfl, h⟩ := h; exact k2 ns h
    | false => exact h.elim
  | _ => exact h.elim
theorem atW.e {xs : List V} {i : V} {P : V → Prop} {K : Nat → V → Prop} (h : atW xs i K) (k : ∀ n j v, idxOf xs.length n = some j → xs[j]? = some v → K j v → P (.int n)) : P i := intW.e h fun n ⟨j, v, h1, h2, h3⟩ => k n j v h1 h2 h3
theorem kind_i {es : List (K × V)} {n : Int} (h : sameKind (.i n) es = true) : es.all (·.1.isI) = true := by
  simpa [sameKind, K.isI] using h
theorem kind_t {es : List (K × V)} {n : List Int} (h : sameKind (.t n) es = true) : es.all (fun e => !e.1.isI) = true := by
  simpa [sameKind, K.isI] using h

theorem look_at {h : Heap} {xs : List (List Int × Addr × Value)} {es : List (K × V)} (d : All2 (fun (x : List Int × Addr × Value) (e : K × V) => e.1 = .t x.1 ∧ Den h φ (.ref x.2.1) (.seq true (x.1.map .int)) ∧ Den h φ x.2.2 e.2) xs es) (k : List Int) :
    (match look (.t k) es with | some v => ∃ p, atKey xs k = some p ∧ Den h φ p.2 v | none => atKey xs k = none) := by
  induction d with
  | nil => rfl
  | @cons x e xs es p _ ih =>
    obtain ⟨j, v⟩ := e
    obtain ⟨h1, h2, h3⟩ := p
    obtain rfl : j = .t x.1 := h1
    unfold look
    by_cases hk : x.1 = k
    · subst hk
      simp only [if_true]
      exact ⟨x.2, by simp [atKey], h3⟩
    · have hne : ¬ (K.t x.1 = K.t k) := fun e => hk (K.t.inj e)
      simp only [if_neg hne]
      have e : atKey (x :: xs) k = atKey xs k := by simp [atKey, List.find?_cons, hk]
      rw [e]; exact ih

theorem tK_room (hu : A.units + 1 < cLine) : (tK prog w).room A.in1 := hu

theorem getItem_dict (hu : A.units + 10 < cLine) {Z : V → Prop} {P : Value → Shared → Prop} {a : Addr} {es : List (K × V)} (m : MDen prog w W.C s.heap φ a (.dict es)) {kv : Value} {kx : V} (dk : Den s.heap φ kv kx)
    (ev : keyW kx fun k => ∃ v, sameKind k es = true ∧ look k es = some v ∧ Z v) (k : ∀ val v tk, Den s.heap φ val v → Z v → P val { s with toks := tk }) : wpAny (model prog w) A (getItem (.ref a) kv) P E s := by
  obtain ⟨hsys, _, m1, m2⟩ := m
  revert dk
  refine keyW.e (P := fun kx => Den s.heap φ kv kx → _) ev (fun n ⟨v, hs, hl, q⟩ dk => dk.intE fun t => ?k1) fun ns ⟨v, hs, hl, q⟩ dk => ?k2
  case k1 =>
    obtain ⟨kvs, hm, hf⟩ := m1 (kind_i hs)
    have := look_i hf n
    rw [hl] at this
    obtain ⟨val, h1, d⟩ := this
    exact wpAny_getItem_of (iK_is _ _) hm.mapOf h1 (k _ _ _ d q)
  case k2 =>
    obtain ⟨xs, hm, ha⟩ := m2 (kind_t hs)
    have := look_at ha ns
    rw [hl] at this
    obtain ⟨p, h1, d⟩ := this
    refine dk.tupE fun r items l hz hz' dd => ?_
    exact wpAny_getItem_heap (knd := tK prog w) (tK_room (Nat.lt_of_le_of_lt (Nat.add_le_add_left (by decide) _) hu)) (Den.key (φ := φ) (.tup l hz hz' dd)) hm h1 (k _ _ _ d q)

theorem getItem_at {K : V → Prop} {P : Value → Shared → Prop} {l : Addr} {items : Array Value} {xs : List V} {b : Value} {y : V} (hl : IsSeq s.heap l items) (hz : items.size ≤ sizeLine) (d : Dens s.heap φ items.toList xs) (dy : Den s.heap φ b y) (ev : atW xs y fun _ v => K v)
    (k : ∀ val v tk, Den s.heap φ val v → K v → P val { s with toks := tk }) : wpAny (model prog w) A (getItem (.ref l) b) P E s := by
  revert dy
  refine atW.e (P := fun y => Den s.heap φ b y → _) ev fun n j v h1 h2 q dy => dy.intE fun t => ?_
  obtain ⟨val, h3, h4⟩ := d.get h2
  exact getItem_seq hl hz (d.len ▸ h1) (by simpa using h3) (k _ _ s.toks h4 q)
theorem snd_indexK (hu : A.units + 10 < cLine) {K : V → Prop} {P : Value → Shared → Prop} {a b : Value} {x y : V} (S : SimW W s.heap φ σ) (dx : Den s.heap φ a x) (dy : Den s.heap φ b y) (ev : indexW σ x y K)
    (k : ∀ val v tk, Den s.heap φ val v → K v → P val { s with toks := tk }) : wpAny (model prog w) A (getItem a b) P E s := by
  unfold indexW at ev
  cases x with
  | seq t xs =>
    cases t with
    | false => exact dx.listE fun r items l _ z d => getItem_at (.inl l) z d dy ev k
    | true => exact dx.tupE fun r items l _ z d => getItem_at (.inr l) z d dy ev k
  | ref r =>
    refine dx.refE fun r' hr => ?_
    rcases ev with ⟨xs, e, ev⟩ | ⟨es, e, ev⟩
    · obtain ⟨items, hl, hz, d⟩ := S.at hr e
      exact getItem_at (.inl hl.isList) hz d dy ev k
    · exact getItem_dict hu (S.at hr e) dy ev k
  | _ => exact ev.elim
theorem snd_index (hu : A.units + 10 < cLine) {a b : Value} {x y : V} (S : SimW W s.heap φ σ) (dx : Den s.heap φ a x) (dy : Den s.heap φ b y) (ev : indexW σ x y fun v => Q v σ) :
    wpAny (model prog w) A (getItem a b) (GotQ W s φ Q) E s := snd_indexK hu S dx dy ev fun _ _ _ d q => .tok S d q
end
end Mine
end

section
set_option autoImplicit false
set_option maxRecDepth 100000
namespace Mine
open PySem PySem.W PyProof.Rows

section
variable [Hid]
variable {prog : Program} {w : World} {W : Wd prog w}
variable {A : Around} {s : Shared} {φ : Phi} {σ σ' : St} {E : Value → Shared → Prop} {Q : V → St → Prop}

theorem filter_one {es : List DictEntry} (hn : (es.map (·.hash)).Nodup) {e : DictEntry} (he : e ∈ es) : (es.filter (·.hash == e.hash)).length ≤ 1 := by
  induction es with
  | nil => cases he
  | cons x r ih =>
    rw [List.map_cons, List.nodup_cons] at hn
    rw [List.filter_cons]
    rcases List.mem_cons.mp he with rfl | he
    · simp only [beq_self_eq_true, if_true, List.length_cons]
      have : r.filter (·.hash == e.hash) = [] := by
        rw [List.filter_eq_nil_iff]
        intro y hy q
        exact hn.1 (List.mem_map.mpr ⟨y, hy, by simpa using q⟩)
      rw [this]; simp
    · have hne : (x.hash == e.hash) = false := by
        cases q : x.hash == e.hash with
        | false => rfl
        | true => exact absurd (List.mem_map.mpr ⟨e, he, (beq_iff_eq.mp q).symm⟩) hn.1
      rw [hne]; exact ih hn.2 he

theorem entries_heap {id : String} {d : Addr} {o : Obj} {es : Array DictEntry} {ep : Nat} {Q : Array DictEntry → Shared → Prop} (ho : s.heap.get? d = some o) (hd : o.data = .dict es ep)
    (hk : ∀ e ∈ es, ∃ a, e.key = .ref a ∧ s.TypeIs (.ref a) "tuple") (hn : (es.toList.map (·.hash)).Nodup) (h : Q es s) : wpAny (model prog w) A (Builtin.Dict.entriesForEmpty id d) Q E s := by
  unfold Builtin.Dict.entriesForEmpty
  refine wpAny_bind (wpAny_dictEntries ho hd ?_)
  refine wpAny_bind ?_
  rw [← Array.forIn_toList]
  refine wpAny_forIn_list _ (fun rest _ s' => s' = s ∧ ∀ e ∈ rest, e ∈ es.toList) _ ?_ ?_ _ _ ⟨rfl, fun _ h => h⟩
  · rintro e rest b s' ⟨rfl, hr⟩
    have he := hr e List.mem_cons_self
    obtain ⟨a, hka, hT⟩ := hk e (Array.mem_toList_iff.mp he)
    have hrest : ∀ e ∈ rest, e ∈ es.toList := fun e he => hr e (List.mem_cons_of_mem _ he)
    have hsz : ¬ (es.filter (·.hash == e.hash)).size > 1 := by
      have := filter_one hn he
      rw [← Array.length_toList, Array.toList_filter]; omega
    unfold Builtin.Dict.quietEq
    rw [hka]
    refine wpAny_bind (wpAny_bind (wpAny_specialOf hT F.slot_tuple_eq.lookup (wpAny_pure ?_)))
    have : (some (Value.builtin "tuple.__eq__") == some (Value.builtin "object.__eq__")) = false := by decide
    rw [this]
    simp only [Bool.not_false, if_true]
    rw [if_neg hsz]
    exact wpAny_pure ⟨rfl, hrest⟩
  · rintro b s' ⟨rfl, _⟩
    exact wpAny_pure h

theorem merge_heap {nm : String} {d o : Addr} {xs : List (List Int × Addr × Value)} {Q : Unit → Shared → Prop} (hdo : d ≠ o) (hoS : (o == sysModules) = false)
    (hd : s.heap.get? d = some { cls := .type "dict", data := .dict #[] }) (ho : s.heap.DictOfH (tK prog w) o xs) (hn : (xs.map fun x => tupleKeyHash (iK prog w) x.1).Nodup) (hsz : xs.length ≤ sizeLine) (hne : xs ≠ [])
    (hQ : ∀ h', h'.DictOfH (tK prog w) d xs → Heap.SameBut d s.heap h' → Q () { s with heap := h' }) : wpAny (model prog w) A (Builtin.Dict.mergeDict nm d o) Q E s := by
  obtain ⟨oo, es, ep, hoo, hco, hdo', he, his, hnd⟩ := id ho
  have hsz' : es.size = xs.length := size_of_entries he
  have hkey : ∀ e ∈ es, ∃ a, e.key = .ref a ∧ s.TypeIs (.ref a) "tuple" := fun e hin => by
    have : e ∈ xs.map (entryOfKey (tK prog w)) := he ▸ Array.mem_toList_iff.mpr hin
    obtain ⟨x, hx, rfl⟩ := List.mem_map.mp this
    exact ⟨x.2.1, rfl, IsTupleKey.typeIs (his x hx)⟩
  have hh : (es.toList.map (·.hash)).Nodup := by
    rw [he, List.map_map]; exact hn
  unfold Builtin.Dict.mergeDict
  rw [if_neg (by simpa using hdo)]
  unfold Builtin.Dict.showsAll
  rw [if_neg (by rw [hoS]; exact Bool.false_ne_true)]
  refine wpAny_bind (wpAny_pure ?_)
  refine wpAny_bind (wpAny_dictEntries hoo hdo' ?_)
  cases hxs : xs with
  | nil => exact absurd hxs hne
  | cons x r =>
    have hne : es ≠ #[] := fun q => by rw [q, hxs] at hsz'; simp at hsz'
    have hfew : (es.all fun e => (keyPart e.key).isSome) = false := by
      cases q : es.all fun e => (keyPart e.key).isSome with
      | false => rfl
      | true =>
        have hlt : 0 < es.size := Array.size_pos_iff.mpr hne
        have := (Array.all_eq_true.mp q) 0 hlt
        obtain ⟨a, ha, _⟩ := hkey es[0] (Array.getElem_mem hlt)
        rw [ha] at this; cases this
    simp only [hfew, Bool.and_false, Bool.not_false, if_true]
    refine wpAny_bind (wpAny_dictEntries hd rfl ?_)
    simp only [Array.isEmpty_empty, if_true]
    refine wpAny_bind (entries_heap hoo hdo' hkey hh ?_)
    have hem : es.isEmpty = false := by simpa using hne
    simp only [hem, Bool.not_false, if_true]
    have hc : (es.size ≤ sizeLine + 1) := by omega
    have hg := Heap.get?_update_self (Obj.mapDictKeys fun _ => es) hd rfl
    have fin : Q () { s with heap := s.heap.update d (Obj.mapDictKeys fun _ => es) } := by
      refine hQ _ ⟨_, es, 1, hg, ⟨rfl, rfl, rfl⟩, rfl, he, fun y hy => ?_, hnd⟩ (Heap.SameBut.update ..)
      exact (his y hy).keeps hd rfl (Heap.SameBut.update ..)
    first
      | exact wpAny_bind (wpAny_updateDictKeysTo hd rfl (wpAny_pure fin) hc)
      | exact wpAny_updateDictKeysTo hd rfl fin hc

theorem call_dict_heap {o : Addr} {xs : List (List Int × Addr × Value)} {Q : Value → Shared → Prop} (hoS : (o == sysModules) = false) (ho : s.heap.DictOfH (tK prog w) o xs)
    (hn : (xs.map fun x => tupleKeyHash (iK prog w) x.1).Nodup) (hsz : xs.length ≤ sizeLine) (hne : xs ≠ [])
    (h : ∀ h', h'.DictOfH (tK prog w) s.heap.objs.size xs → (∀ b ob, s.heap.get? b = some ob → h'.get? b = some ob) → Q (.ref s.heap.objs.size) { s with heap := h' }) :
    wpAny (model prog w) A (call (.type "dict") [.ref o]) Q E s := by
  refine callType_codes (Q₁ := fun obj s₁ => obj = .ref s.heap.objs.size ∧ s₁ = { s with heap := s.heap.push { cls := .type "dict", data := .dict #[] } }) F.kt_called_dict (F.kt_typeCall_dict_1 _) F.entry_dict_init (kt_code_dict_new _ ⟨rfl, rfl⟩) ?_
  rintro obj s₁ ⟨rfl, rfl⟩
  have hnew := Heap.get?_push_size s.heap (o := { cls := .type "dict", data := .dict #[] }) rfl
  have ho' : (s.heap.push { cls := .type "dict", data := .dict #[] }).DictOfH (tK prog w) o xs := by
    obtain ⟨ob, es, ep, e, r1, r2, r3, r4, r5⟩ := ho
    refine ⟨ob, es, ep, Heap.get?_push_of_some _ e, r1, r2, r3, fun x hx => ?_, r5⟩
    obtain ⟨o', items, n, e', q⟩ := r4 x hx
    exact ⟨o', items, n, Heap.get?_push_of_some _ e', q⟩
  have hdo : s.heap.objs.size ≠ o := by
    obtain ⟨_, _, _, hg, _⟩ := ho
    exact fun e => absurd (Heap.lt_size hg) (by rw [e]; exact Nat.lt_irrefl _)
  have hT : ({ s with heap := s.heap.push { cls := .type "dict", data := .dict #[] } } : Shared).TypeIs (.ref s.heap.objs.size) "dict" := ⟨_, hnew, rfl⟩
  refine ⟨hT, F.args_dict_init_2 _ _, ?_⟩
  unfold Builtin.«dict.__init__»
  refine wpAny_bind ?_
  unfold Builtin.Dict.selfAndRest
  refine wpAny_bind (wpAny_notOrdered_dict hT ?_)
  show wpAny _ _ (pure (s.heap.objs.size, [Value.ref o])) _ _ _
  refine wpAny_pure ?_
  show wpAny _ _ (Builtin.Dict.updateFrom "dict.__init__" s.heap.objs.size (.ref o) [] .none) _ _ _
  unfold Builtin.Dict.updateFrom
  refine wpAny_bind (wpAny_typeOf ho'.typeIs ?_)
  rw [if_neg (by decide)]
  refine wpAny_bind ?_
  unfold Builtin.Dict.merge
  refine wpAny_bind ?_
  unfold Builtin.Dict.readDirectly
  refine wpAny_bind (wpAny_isInstance ho'.typeIs isSubtype_dict_dict ?_)
  simp only [Bool.not_true, Bool.false_eq_true, if_false]
  refine wpAny_bind (wpAny_specialOf ho'.typeIs F.slot_dict_iter.lookup (wpAny_pure ?_))
  simp only [beq_self_eq_true, if_true]
  refine wpAny_bind (wpAny_pure ?_)
  refine merge_heap hdo hoS hnew ho' hn hsz hne fun h' hd' hs' => ?_
  show wpAny _ _ (Builtin.Dict.addKeywords s.heap.objs.size [] >>= _) _ _ _
  refine wpAny_bind (wpAny_pure (wpAny_pure ⟨rfl, h h' hd' fun b ob e => ?_⟩))
  exact (hs'.2 b (Nat.ne_of_lt (Heap.lt_size e))).trans (Heap.get?_push_of_some _ e)

theorem hashes_eq : ∀ {xs : List (List Int × Addr × Value)} {es : List (K × V)} {R : (List Int × Addr × Value) → (K × V) → Prop}, (∀ x e, R x e → e.1 = .t x.1) → All2 R xs es → xs.map (fun x => tupleKeyHash (iK prog w) x.1) = hashes es
  | _, _, _, _, .nil => rfl
  | x :: _, (k, v) :: _, R, hr, .cons a r => by
    have := hr _ _ a
    simp only at this
    subst this
    simp only [List.map_cons, hashes, hashes_eq hr r]
    rfl

noncomputable def primVal : Prim → Value
  | .len => .builtin "len" | .range1 | .range2 => .type "range" | .toList => .type "list" | .toTuple => .type "tuple" | .max => .builtin "max" | .min => .builtin "min"
  | .abs => .builtin "abs" | .intOf => .type "int" | .sum => .builtin "sum" | .dictCopy => .type "dict" | .isInt | .isBool | .isSeq => .builtin "isinstance"

@[elab_as_elim] theorem oneW.e {P : List Value → Prop} {h : Heap} {vals : List Value} {xs : List V} {K : V → Prop} (e : oneW xs K) (d : Dens h φ vals xs) (k : ∀ a x, Den h φ a x → K x → P [a]) : P vals := by
  cases d with
  | nil => exact e.elim
  | cons a r => cases r with
    | nil => exact k _ _ a e
    | cons => exact e.elim
@[elab_as_elim] theorem twoW.e {P : List Value → Prop} {h : Heap} {vals : List Value} {xs : List V} {K : V → V → Prop} (e : twoW xs K) (d : Dens h φ vals xs) (k : ∀ a b x y, Den h φ a x → Den h φ b y → K x y → P [a, b]) : P vals := by
  cases d with
  | nil => exact e.elim
  | cons a r => cases r with
    | nil => exact e.elim
    | cons b r => cases r with
      | nil => exact k _ _ _ _ a b e
      | cons => exact e.elim
theorem place_val {mt : Bool} {v : V} (hv : ∀ K, ¬ listW v K) (e : placeW mt v σ Q) : Q v σ := match mt, e with | false, e => e | true, e => (hv _ e).elim

theorem len_seq {l : Addr} {items : Array Value} {Q : Value → Shared → Prop} (hl : s.heap.IsList l items ∨ s.heap.IsTuple l items) (hz : items.size ≤ sizeLine)
    (h : Q (.int items.size (s.toks + 1)) { s with toks := s.toks + 1 + 1 }) : wpAny (model prog w) A (call (.builtin "len") [.ref l]) Q E s := by
  rw [sizeLine] at hz
  rcases hl with hl | hl
  · exact Calls.call_len_list hl (by omega) h
  · exact PyProof.Rows.len_tuple hl (by omega) h

theorem list_new {l : Addr} {items : Array Value} {Q : Value → Shared → Prop} (hl : s.heap.IsList l items ∨ s.heap.IsTuple l items) (hz : items.size ≤ sizeLine)
    (hQ : ∀ h' c', (∀ b o', s.heap.get? b = some o' → h'.get? b = some o') → h'.get? s.heap.objs.size = some { cls := .type "list", dict := none, data := .seq items c', slots := #[] } → Q (.ref s.heap.objs.size) { s with heap := h' }) :
    wpAny (model prog w) A (call (.type "list") [.ref l]) Q E s := by
  rcases hl with ⟨o, e, c, n, q⟩ | ⟨o, e, c, n, q⟩
  · exact call_list_seq l (.inl rfl) e c q hQ hz
  · exact call_list_seq l (.inr rfl) e c q hQ hz

theorem Dens.intsAre {h : Heap} {vs : List Value} {ns : List Int} (d : Dens h φ vs (ns.map .int)) : IntsAre vs ns := by
  induction ns generalizing vs with
  | nil => cases d; exact .nil
  | cons n ns ih => cases d with | cons a r => cases a; exact .cons _ _ (ih r)
theorem Sim.big {h : Heap} (S : SimW W h φ σ) : (h.objs.size == sysModules) = false := by
  obtain ⟨o, es, ep, e, _⟩ := W.g
  have := Heap.lt_size (S.base _ _ e).1
  rw [beq_eq_false_iff_ne]
  intro q
  rw [q] at this
  exact absurd this (by decide)

theorem LIM_le {n : Nat} (h : n ≤ LIM) : n ≤ sizeLine := by unfold LIM at h; unfold sizeLine; omega

theorem kept_tuple {items : Array Value} {xs : List V} (S : SimW W s.heap φ σ) (hz : items.size ≤ sizeLine) (dd : Dens s.heap φ items.toList xs) {r : Addr} (hl : s.heap.IsList r items) (q : Q (.seq true xs) σ) :
    wpAny (model prog w) A (call (.type "tuple") [.ref r]) (GotQ W s φ Q) E s := by
  refine call_tuple_list hl (fun h' hk => ?_) hz
  have hk' : ∀ b o, s.heap.get? b = some o → (h'.push { cls := .type "tuple", data := .seq items }).get? b = some o := fun b o e => keep_push _ b o (hk b o e)
  exact .grown S ⟨rfl, rfl, rfl⟩ hk' (.tup ⟨_, Heap.get?_push_size _ rfl, rfl, 0, rfl⟩ (off_dead S (dead_of hk (dead _))) hz (dd.mono (Ext.all (own := []) hk') Bare.nil)) q
theorem snd_prim {n : Nat} (R : Room A n) {p : Prim} {args : List V} {vals : List Value} {mt : Bool} (S : SimW W s.heap φ σ) (d : Dens s.heap φ vals args)
    (hp : p ≠ .isInt ∧ p ≠ .isBool ∧ p ≠ .isSeq) (ev : primW σ p args fun v σ₁ => placeW mt v σ₁ Q) :
    wpAny (model prog w) A (call (primVal p) vals) (GotQ W s φ Q) E s := by
  have ni : ∀ {n : Int} (K : List V → Prop), ¬ listW (.int n) K := fun _ h => h
  have int : ∀ {n : Int} {t : Nat} {u : Tok}, placeW mt (.int n) σ Q → GotQ W s φ Q (.int n u) { s with toks := t } := fun e => .tok S (.int _ _) (place_val ni e)
  cases p with
  | isInt => exact (hp.1 rfl).elim
  | isBool => exact (hp.2.1 rfl).elim
  | isSeq => exact (hp.2.2 rfl).elim
  | len =>
    refine oneW.e ev d fun a x da ev => ?_
    refine items_of S da ev fun l items xs hl hz dd q => len_seq hl hz ?_
    rw [dd.len]; exact int q
  | range1 =>
    refine oneW.e ev d fun a x da ev => ?_
    revert da
    refine intW.e (P := fun x => Den s.heap φ a x → _) ev fun n q da => da.intE fun t => ?_
    exact call_range_1 (.grown S ⟨rfl, rfl, rfl⟩ (keep_push _) (.rng (IsRange.new _ _ _ _ _ _ _) (off_dead S (dead _))) (place_val (fun _ h => h) q.2))
  | range2 =>
    refine twoW.e ev d fun a b x y da db ev => ?_
    revert da db
    refine int2 (R := fun x y => Den s.heap φ a x → Den s.heap φ b y → _) ev fun n m q da db => da.intE fun t => db.intE fun u => ?_
    exact call_range_2 (.grown S ⟨rfl, rfl, rfl⟩ (keep_push _) (.rng (IsRange.new _ _ _ _ _ _ _) (off_dead S (dead _))) (place_val (fun _ h => h) q.2))
  | toList =>
    refine oneW.e ev d fun a x da ev => ?_
    refine items_of S da ev fun l items xs hl hz dd q => list_new hl hz fun h' c' hk he => ?_
    refine placed S ?_ hk (dead _) ⟨c', he⟩ hz dd q
    exact ⟨rfl, rfl, rfl⟩
  | toTuple =>
    refine oneW.e ev d fun a x da ev => ?_
    cases x with
    | seq t xs =>
      cases t with
      | false => exact da.listE fun r items hl _ hz dd => kept_tuple S hz dd hl (place_val (fun _ h => h) ev)
      | true => exact ev.elim
    | ref r =>
      obtain ⟨xs, q, ev⟩ := ev
      refine da.refE fun r' hr => ?_
      obtain ⟨items, hl, hz, dd⟩ := S.at hr q
      exact kept_tuple S hz dd hl.isList (place_val (fun _ h => h) ev)
    | _ => exact ev.elim
  | max =>
    refine twoW.e ev d fun a b x y da db ev => ?_
    revert da db
    refine int2 (R := fun x y => Den s.heap φ a x → Den s.heap φ b y → _) ev fun n m q da db => da.intE fun t => db.intE fun u => max_two_ints R.handled fun h' tk hk => ?_
    refine .grown S ⟨rfl, rfl, rfl⟩ hk ?_ (place_val ni q)
    split
    · rename_i h; rw [show max n m = m by omega]; exact .int _ _
    · rename_i h; rw [show max n m = n by omega]; exact .int _ _
  | min =>
    refine twoW.e ev d fun a b x y da db ev => ?_
    revert da db
    refine int2 (R := fun x y => Den s.heap φ a x → Den s.heap φ b y → _) ev fun n m q da db => da.intE fun t => db.intE fun u => min_two_ints R.handled fun h' tk hk => ?_
    refine .grown S ⟨rfl, rfl, rfl⟩ hk ?_ (place_val ni q)
    split
    · rename_i h; rw [show min n m = m by omega]; exact .int _ _
    · rename_i h; rw [show min n m = n by omega]; exact .int _ _
  | abs =>
    refine oneW.e ev d fun a x da ev => ?_
    revert da
    refine intW.e (P := fun x => Den s.heap φ a x → _) ev fun n q da => da.intE fun t => call_abs_int fun u tk => ?_
    rw [show (if n < 0 then -n else n) = ((n.natAbs : Nat) : Int) by split <;> omega]
    exact int q
  | intOf =>
    refine oneW.e ev d fun a x da ev => ?_
    revert da
    exact boolW.e (P := fun x => Den s.heap φ a x → _) ev fun n q da => da.boolE (call_int_bool (int q))
  | sum =>
    refine oneW.e ev d fun a x da ev => ?_
    revert da
    refine listW.e (P := fun x => Den s.heap φ a x → _) ev fun xs ⟨ns, e, q⟩ da => ?_
    subst e
    refine da.listE fun r items hl _ hz dd => ?_
    have hi := dd.intsAre
    obtain ⟨xs, rfl⟩ := AllInts.items (vs := items) (by simpa using hi.allInts)
    refine sum_intListG R.handled hl fun h' tk t' hk => ?_
    have e := hi.numsOf
    rw [nums_intItems] at e
    rw [preSum_eq, List.take_of_length_le (by simp), e]
    exact .grown S ⟨rfl, rfl, rfl⟩ hk (.int _ _) (place_val ni q)
  | dictCopy =>
    refine oneW.e ev d fun a x da ev => ?_
    replace ev : dictCopyW σ x fun v σ₁ => placeW mt v σ₁ Q := ev
    unfold dictCopyW at ev
    cases x with
    | ref r =>
      obtain ⟨es, q, ⟨hT, hlt, hnd, hne⟩, ev⟩ := ev
      refine da.refE fun r' hr => ?_
      obtain ⟨hsys, _, _, m2⟩ := S.at hr q
      obtain ⟨xs, hm, ha⟩ := m2 hT
      have hlen := ha.length
      refine call_dict_heap hsys hm ?_ ?_ ?_ fun h' hd hk => ?_
      · rw [hashes_eq (fun _ _ q => q.1) ha]; exact hnd
      · rw [hlen]; exact LIM_le (Nat.le_of_lt hlt)
      · intro e; rw [e] at hlen; exact hne (List.length_eq_zero_iff.mp hlen.symm)
      · have hd' : s.heap.get? s.heap.objs.size = none := dead _
        have X := Ext.pushed (φ := φ) (own := []) hd' hk
        have m : MDen prog w W.C h' (φ ++ [s.heap.objs.size]) s.heap.objs.size (.dict es) := by
          refine ⟨S.big, ?_, fun hi => ?_, fun _ => ⟨xs, hd, ha.mono fun _ _ q => ⟨q.1, q.2.1.mono X Bare.nil, q.2.2.mono X Bare.nil⟩⟩⟩
          · obtain ⟨o, l, ep, e, c, q, _⟩ := hd; exact ⟨o, _, _, e, c.1, q⟩
          · exfalso
            cases es with
            | nil => exact hne rfl
            | cons e r =>
              rw [List.all_cons, Bool.and_eq_true] at hi hT
              have h3 := hT.1
              rw [hi.1] at h3; exact absurd h3 (by decide)
        obtain ⟨S', X⟩ := S.push (own := []) hd' hk m
        exact .mk _ _ _ ⟨rfl, rfl, rfl⟩ X S' (.ref (by rw [← S.len]; simp)) (place_val (fun _ h => h) ev)
    | _ => exact ev.elim
end
end Mine
end

section
set_option autoImplicit false
set_option maxRecDepth 100000
namespace Mine
open PySem PySem.W PyProof.Rows

section
variable [Hid]
variable {prog : Program} {w : World} {W : Wd prog w}
variable {A : Around} {s : Shared} {φ : Phi} {σ σ' : St} {E : Value → Shared → Prop} {Q : V → St → Prop}

theorem max0 (z : Int) : (max 0 z).toNat = z.toNat := by
  rcases Int.le_total 0 z with h | h
  · rw [Int.max_eq_right h]
  · rw [Int.max_eq_left h, Int.toNat_of_nonpos h]; rfl
theorem minN (n : Nat) {i : Int} (h0 : 0 ≤ i) : (min i n).toNat = min i.toNat n := by
  rcases Int.le_total i n with h | h
  · rw [Int.min_eq_left h]; exact (Nat.min_eq_left (Int.toNat_le.mpr h)).symm
  · rw [Int.min_eq_right h, Int.toNat_natCast]; exact (Nat.min_eq_right ((Int.le_toNat h0).mpr h)).symm
theorem clip_eq (n : Nat) (i : Int) : clipAt n i = clampLo n i := by
  unfold clipAt clampLo
  rw [max0]
  by_cases h : i < 0
  · rw [if_pos h, if_pos h, Int.min_eq_left (by omega)]
  · rw [if_neg h, if_neg h]; exact minN n (Int.not_lt.mp h)
theorem adjust_upto (b n : Nat) : Builtin.Slice.sliceAdjust none (some (b : Int)) 1 (n : Int) = (0, ((min b n : Nat) : Int)) := by
  unfold Builtin.Slice.sliceAdjust
  have h1 : ¬ ((1 : Int) < 0) := by omega
  have h2 : ¬ ((b : Int) < 0) := by omega
  simp only [h1, h2, if_false]
  congr 1
  omega
theorem places_upto (m : Nat) : Builtin.Slice.slicePlaces 0 (m : Int) 1 = m := by
  unfold Builtin.Slice.slicePlaces
  have h1 : (1 : Int) > 0 := by omega
  simp only [h1, if_true, Int.ediv_one]
  split <;> omega
theorem pick_upto (xs : Array Value) (m : Nat) : ((List.range m).filterMap fun (k : Nat) => xs[((0 : Int) + (k : Int) * 1).toNat]?).toArray = (xs.toList.take m).toArray := by
  have e : (fun (k : Nat) => xs[((0 : Int) + (k : Int) * 1).toNat]?) = (fun k => xs[k]?) ∘ fun x => 0 + x := by
    funext k
    have : ((0 : Int) + (k : Int) * 1).toNat = k := by omega
    simp [this]
  have := pick_run xs 0 m
  rw [List.filterMap_map, ← e] at this
  rw [this, List.drop_zero]

theorem getItem_tuple_upto {t sl : Addr} {items : Array Value} {b : Nat} {u : Tok} {Q : Value → Shared → Prop} (ht : IsTup s.heap t items) (hs : s.heap.IsSliceOf sl .none (.int b u) .none) (hz : items.size ≤ sizeLine)
    (h1 : items.size ≤ b → Q (.ref t) s) (h2 : ¬ items.size ≤ b → Q (.ref s.heap.objs.size) { s with heap := s.heap.push { cls := .type "tuple", data := .seq (items.toList.take b).toArray } }) :
    wpAny (model prog w) A (getItem (.ref t) (.ref sl)) Q E s := by
  have hok : sizeOk (.seq (items.toList.take (min b items.size)).toArray) := by
    show (items.toList.take (min b items.size)).toArray.size ≤ sizeLine
    rw [List.size_toArray, List.length_take, Array.length_toList]
    omega
  obtain ⟨os, hos, hcs, hds⟩ := id hs
  have hTs : s.TypeIs (.ref sl) "slice" := ⟨os, hos, hcs⟩
  unfold getItem
  try with_reducible refine wpAny_holding ?_
  first | refine wpAny_bind (wpAny_pure ?_) | skip
  refine wpAny_bind (wpAny_sequenceKey ht.typeIs (by decide) ?_)
  refine wpAny_bind (wpAny_callSpecial?_slot (name := Str.ofString "__getitem__") ht.typeIs slot_tuple_getitem
    (wpAny_call_entry slot_tuple_getitem ht.typeIs entry_tuple_getitem ?_ (args_tuple_getitem _ _)))
  show wpAny _ _ (Builtin.Tuple.tupleItemsOf (.ref t) >>= _) _ _ s
  refine wpAny_bind (tupleItemsOf_ ht ?_)
  refine wpAny_bind (wpAny_typeOf hTs ?_)
  rw [if_pos (by decide)]
  refine wpAny_bind ?_
  have ap : ∀ {R : Int × Int × Nat → Shared → Prop}, R (0, 1, min b items.size) s → wpAny (model prog w) A.in1 (Builtin.Slice.sliceApplied (.ref sl) (pure (items.size : Int))) R (fun e s' => E e s') s := by
    intro R hR
    unfold Builtin.Slice.sliceApplied Builtin.Slice.sliceFields
    refine wpAny_bind (wpAny_bind (wpAny_field hos hds (x := .none) rfl (wpAny_bind (wpAny_field hos hds (x := .int b u) rfl (wpAny_bind (wpAny_field hos hds (x := .none) rfl (wpAny_pure ?_)))))))
    refine wpAny_bind (slicePart_none ?_)
    show wpAny _ _ (if ((1 : Int) == 0) = true then _ else _) _ _ s
    rw [if_neg (by decide)]
    refine wpAny_bind (slicePart_none (wpAny_bind (slicePart_int (wpAny_bind (wpAny_pure ?_)))))
    show wpAny _ _ (match Builtin.Slice.sliceAdjust none (some (b : Int)) 1 (items.size : Int) with | (lo, hi) => pure (lo, (1 : Int), Builtin.Slice.slicePlaces lo hi 1)) _ _ s
    rw [adjust_upto]
    show wpAny _ _ (pure ((0 : Int), (1 : Int), Builtin.Slice.slicePlaces (0 : Int) ((min b items.size : Nat) : Int) 1)) _ _ s
    rw [places_upto]
    exact wpAny_pure hR
  refine ap ?_
  show wpAny _ _ (if ((0 : Int) == 0 && (1 : Int) == 1 && (min b items.size) == items.size) = true then _ else _) _ _ s
  by_cases hb : items.size ≤ b
  · rw [if_pos (by simp; omega)]
    refine wpAny_bind (m := Builtin.Tuple.tupleIsExact _) ?_
    unfold Builtin.Tuple.tupleIsExact
    refine wpAny_bind (wpAny_typeOf ht.typeIs (wpAny_pure ?_))
    simp only [beq_self_eq_true, if_true]
    first
      | exact wpAny_bind (wpAny_rule (wpAny_pure ⟨_, rfl, wpAny_pure (h1 hb)⟩))
  · rw [if_neg (by simp; omega), pick_upto]
    have e : min b items.size = b := by omega
    rw [e] at hok ⊢
    have h2 := h2 hb
    first
      | exact wpAny_bind (m := Builtin.Tuple.tupleExact _) (wpAny_newObj_type (wpAny_pure ⟨_, rfl, wpAny_pure h2⟩) hok)
      | exact wpAny_bind (m := Builtin.Tuple.tupleExact _) (wpAny_newObj_type (wpAny_bind (wpAny_pure (wpAny_pure ⟨_, rfl, wpAny_pure h2⟩))) hok)

theorem boundW.e {h : Heap} {v : Value} {x : V} {n d : Nat} {K : Nat → Prop} {P : Prop} (dx : Den h φ v x) (ev : boundW n d x K) (k : ∀ o : Option Int, IsPart v o → K (o.elim d (clipAt n)) → P) : P := by
  cases dx with
  | nul => exact k none .none ev
  | int i t => exact k (some i) (.int i t) (by show K (clipAt n i); rw [clip_eq]; exact ev)
  | _ => exact ev.elim
theorem slice_seq {l : Addr} {items : Array Value} {xs : List V} {vl vu : Value} {lo hi : V} (S : SimW W s.heap φ σ) (hl : s.heap.IsList l items) (hz : items.size ≤ sizeLine) (d : Dens s.heap φ items.toList xs) (dl : Den s.heap φ vl lo) (du : Den s.heap φ vu hi)
    (ev : boundW xs.length 0 lo fun l => boundW xs.length xs.length hi fun h => Q (.seq false ((xs.take h).drop l)) σ) :
    wpAny (model prog w) A (getItem (.ref l) (.ref s.heap.objs.size)) (GotQ W s φ Q) E { s with heap := s.heap.push { cls := .type "slice", data := .fields #[vl, vu, .none] } } := by
  have hk1 := keep_push (h := s.heap) { cls := .type "slice", data := .fields #[vl, vu, .none] }
  rw [← d.len] at ev
  refine boundW.e dl ev fun ol pl ev => boundW.e du ev fun ou pu q => ?_
  refine wpAny_getItem_list_slice (hl.push _) (Heap.IsSliceOf.new ..) pl pu .none nofun ?_ hz
  have hk2 : ∀ c o, s.heap.get? c = some o → ((s.heap.push { cls := .type "slice", data := .fields #[vl, vu, .none] }).push { cls := .type "list", data := .seq (slicePick items ol ou none) }).get? c = some o := fun c o e => keep_push _ c o (hk1 c o e)
  refine .grown S ⟨rfl, rfl, rfl⟩ hk2 (.list ⟨_, Heap.get?_push_size _ rfl, rfl, 0, rfl⟩ (off_dead S (dead_of hk1 (dead _))) (Nat.le_trans (slicePick_size_le items ol ou none) hz) ?_) q
  have e2 : (slicePick items ol ou none).toList = (items.toList.drop (ol.elim 0 (clipAt items.size))).take (ou.elim items.size (clipAt items.size) - ol.elim 0 (clipAt items.size)) := by rw [slicePick_plain]
  rw [e2, List.drop_take]
  exact ((d.drop _).take _).mono (Ext.all (own := []) hk2) Bare.nil
theorem snd_slice {a vl vu : Value} {x lo hi : V} (S : SimW W s.heap φ σ) (dx : Den s.heap φ a x) (dl : Den s.heap φ vl lo) (du : Den s.heap φ vu hi) (ev : sliceW σ x lo hi fun v => Q v σ) :
    wpAny (model prog w) A (getItem a (.ref s.heap.objs.size)) (GotQ W s φ Q) E { s with heap := s.heap.push { cls := .type "slice", data := .fields #[vl, vu, .none] } } := by
  unfold sliceW at ev
  cases x with
  | seq t xs =>
    cases t with
    | false => exact dx.listE fun r items hl _ hz d => slice_seq S hl hz d dl du ev
    | true =>
      revert du
      refine intW.e (P := fun hi => Den s.heap φ vu hi → _) ev fun b ⟨hlo, hb, q⟩ du => du.intE fun u => ?_
      subst hlo
      cases dl
      obtain ⟨b, rfl⟩ := Int.eq_ofNat_of_zero_le hb
      rw [Int.toNat_natCast] at q
      have hk1 := keep_push (h := s.heap) { cls := .type "slice", data := .fields #[.none, .int b u, .none] }
      refine dx.tupE fun r items hl ha hz d => getItem_tuple_upto (hl.push _) (Heap.IsSliceOf.new ..) hz (fun hle => ?_) fun hle => ?_
      · rw [List.take_of_length_le (by rw [← d.len]; exact hle)] at q
        exact .grown S ⟨rfl, rfl, rfl⟩ hk1 (Den.mono (Ext.all (own := []) hk1) Bare.nil (.tup hl ha hz d)) q
      · have hk2 := fun c o e => keep_push { cls := .type "tuple", data := .seq (items.toList.take b).toArray } c o (hk1 c o e)
        refine .grown S ⟨rfl, rfl, rfl⟩ hk2 (.tup ⟨_, Heap.get?_push_size _ rfl, rfl, 0, rfl⟩ (off_dead S (dead_of hk1 (dead _))) ?_ ?_) q
        · rw [List.size_toArray, List.length_take, Array.length_toList]; exact Nat.le_trans (Nat.min_le_right _ _) hz
        · simpa using (d.take b).mono (Ext.all (own := []) hk2) Bare.nil
  | ref r =>
    obtain ⟨xs, e, ev⟩ := ev
    refine dx.refE fun r' hr => ?_
    obtain ⟨items, hl, hz, d⟩ := S.at hr e
    exact slice_seq S hl.isList hz d dl du ev
  | _ => exact ev.elim
end
end Mine
end

section
set_option autoImplicit false
set_option maxRecDepth 100000
namespace Mine
open PySem PySem.W PyProof.Rows

section
variable [Hid]
variable {prog : Program} {w : World} {W : Wd prog w}
variable {A : Around} {s : Shared} {φ : Phi} {σ σ' : St} {E : Value → Shared → Prop} {R : St → Prop} {Q : V → St → Prop}

theorem mapSeq_same {its : Array Value} {n : Nat} {f : Array Value → Array Value} (hf : (f its).size = its.size) :
    Obj.mapSeq f { cls := .type "list", data := .seq its n } = { cls := .type "list", data := .seq (f its) n } := by
  simp [Obj.mapSeq, hf]

theorem setItem_plain {l : Addr} {items : Array Value} {i : Int} {t : Tok} {j : Nat} {v : Value} {Q : Unit → Shared → Prop} (hl : s.heap.PlainList l items) (hz : items.size ≤ sizeLine) (hi : idxOf items.size i = some j)
    (h : ∀ h', h'.PlainList l (items.setIfInBounds j v) → Heap.SameBut l s.heap h' → Q () { s with heap := h' }) : wpAny (model prog w) A (setItem (.ref l) (.int i t) v) Q E s := by
  obtain ⟨hj, h1⟩ := idx_lt hi
  have hL := hl.isList
  obtain ⟨n, ho⟩ := hl
  rw [sizeLine] at hz
  have hup : ∀ k : Nat, k = j → Q () { s with heap := s.heap.update l (Obj.mapSeq (·.setIfInBounds k v)) } := by
    rintro k rfl
    have e := mapSeq_same (its := items) (n := n) (f := (·.setIfInBounds k v)) (by simp)
    exact h _ ⟨n, by rw [Heap.get?_update_self _ ho (by rw [e]; rfl), e]⟩ (Heap.SameBut.update ..)
  rcases h1 with ⟨a, b, c⟩ | ⟨a, b, c⟩
  · exact ki_setAt ho a (by omega) b (hup _ c.symm)
  · unfold setItem
    try with_reducible refine wpAny_holding ?_
    first | refine wpAny_bind (wpAny_pure ?_) | skip
    refine wpAny_bind (wpAny_sequenceKey hL.typeIs (by decide) ?_)
    refine wpAny_bind (wpAny_callSpecial?_slot (name := Str.ofString "__setitem__") hL.typeIs slot_list_setitem
      (wpAny_call_entry slot_list_setitem hL.typeIs entry_list_setitem ?_ (args_list_setitem _ _ _)))
    show wpAny _ _ (Builtin.List.listSubscript? (.int i t) >>= _) _ _ s
    refine wpAny_bind (wpAny_listSubscript_int (fitsIndex_neg a (by omega)) ?_)
    have hidx := seqIndex_neg a b
    have hx : items[j]? = some items[j] := Array.getElem?_eq_getElem hj
    obtain ⟨q, rfl⟩ : ∃ q : Nat, i = Int.negSucc q := by
      cases i with
      | ofNat n => exact absurd a (Int.not_lt.mpr (Int.natCast_nonneg n))
      | negSucc n => exact ⟨n, rfl⟩
    show wpAny _ _ ((Builtin.List.listItems (.ref l) >>= fun xs => pure ((seqIndex? (Int.negSucc q) xs.size).bind fun i => xs[i]?.map (i, ·))) >>= _) _ _ s
    refine wpAny_bind (wpAny_bind ?_)
    show wpAny _ _ (seqItems? (.ref l) >>= _) _ _ s
    refine wpAny_bind (wpAny_seqItems ho rfl (wpAny_pure (wpAny_pure ?_)))
    rw [hidx, ← c]
    simp only [Option.bind_some, hx, Option.map_some]
    refine wpAny_bind (wpAny_setSeqItemAt ho rfl ?_)
    first
      | exact wpAny_bind (wpAny_pure (wpAny_pure ⟨.none, rfl, wpAny_pure (hup j rfl)⟩))
      | exact wpAny_pure ⟨.none, rfl, wpAny_pure (hup j rfl)⟩

theorem stored_i {h : Heap} {x : V} {val : Value} (d : Den h φ val x) {n : Int} {kvs : List (Int × Value)} {es : List (K × V)} (hn : (kvs.map (·.1)).Nodup) (al : All2 (fun (x : Int × Value) (e : K × V) => e.1 = .i x.1 ∧ Den h φ x.2 e.2) kvs es) :
    All2 (fun (x : Int × Value) (e : K × V) => e.1 = .i x.1 ∧ Den h φ x.2 e.2) (stored kvs n val) (put (.i n) x es) := by
  induction al with
  | nil => simp only [stored, List.any_nil, Bool.false_eq_true, if_false, put, List.nil_append]; exact .cons ⟨rfl, d⟩ .nil
  | @cons mu e kvs es p r ih =>
    obtain ⟨m, u⟩ := mu
    obtain ⟨j, v⟩ := e
    obtain ⟨h1, h2⟩ := p
    obtain rfl : j = .i m := h1
    rw [List.map_cons, List.nodup_cons] at hn
    unfold put
    by_cases hk : m = n
    · subst hk
      simp only [if_true, stored, List.any_cons, decide_true, Bool.true_or, List.map_cons]
      refine .cons ⟨rfl, d⟩ ?_
      rw [List.map_congr_left (g := id) (fun y hy => by
        have : y.1 ≠ m := fun e => hn.1 (List.mem_map.mpr ⟨y, hy, e⟩)
        simp [this]), List.map_id]
      exact r
    · have hne : ¬ (K.i m = K.i n) := fun e => hk (K.i.inj e)
      rw [if_neg hne]
      have e : stored ((m, u) :: kvs) n val = (m, u) :: stored kvs n val := by
        simp only [stored, List.any_cons, hk, decide_false, Bool.false_or]
        split <;> simp [hk]
      rw [e]; exact .cons ⟨rfl, h2⟩ (ih hn.2)

theorem stored_t {h : Heap} {x : V} {val : Value} (d : Den h φ val x) {n : List Int} {a : Addr} (dk : Den h φ (.ref a) (.seq true (n.map .int))) {xs : List (List Int × Addr × Value)} {es : List (K × V)} (hn : (xs.map (·.1)).Nodup) (al : All2 (fun (x : List Int × Addr × Value) (e : K × V) => e.1 = .t x.1 ∧ Den h φ (.ref x.2.1) (.seq true (x.1.map .int)) ∧ Den h φ x.2.2 e.2) xs es) :
    All2 (fun (x : List Int × Addr × Value) (e : K × V) => e.1 = .t x.1 ∧ Den h φ (.ref x.2.1) (.seq true (x.1.map .int)) ∧ Den h φ x.2.2 e.2) (storedH xs n a val) (put (.t n) x es) := by
  induction al with
  | nil => simp only [storedH, atKey, List.find?_nil, Option.map_none, Option.isSome_none, Bool.false_eq_true, if_false, put, List.nil_append]; exact .cons ⟨rfl, dk, d⟩ .nil
  | @cons mu e xs es p r ih =>
    obtain ⟨m, b, u⟩ := mu
    obtain ⟨j, v⟩ := e
    obtain ⟨h1, h2, h3⟩ := p
    obtain rfl : j = .t m := h1
    rw [List.map_cons, List.nodup_cons] at hn
    unfold put
    by_cases hk : m = n
    · subst hk
      have e : storedH ((m, b, u) :: xs) m a val = (m, b, val) :: xs := by
        have : (atKey ((m, b, u) :: xs) m).isSome = true := by simp [atKey]
        simp only [storedH, this, if_true, List.map_cons, putAt]
        rw [map_putAt_of_not_mem xs m val hn.1]
      rw [e, if_pos rfl]
      exact .cons ⟨rfl, h2, d⟩ r
    · have hne : ¬ (K.t m = K.t n) := fun e => hk (K.t.inj e)
      rw [if_neg hne]
      have e : storedH ((m, b, u) :: xs) n a val = (m, b, u) :: storedH xs n a val := by
        have e1 : atKey ((m, b, u) :: xs) n = atKey xs n := by simp [atKey, List.find?_cons, hk]
        simp only [storedH, e1]
        split
        · simp [putAt, hk]
        · simp
      rw [e]; exact .cons ⟨rfl, h2, h3⟩ (ih hn.2)

theorem put_kind {k : K} {x : V} : ∀ {es : List (K × V)}, (put k x es).all (·.1.isI) = (k.isI && es.all (·.1.isI)) ∧ (put k x es).all (fun e => !e.1.isI) = (!k.isI && es.all (fun e => !e.1.isI))
  | [] => by simp [put]
  | (j, v) :: es => by
    have ih := put_kind (k := k) (x := x) (es := es)
    unfold put
    by_cases hk : j = k
    · subst hk
      rw [if_pos rfl]
      simp only [List.all_cons]
      constructor <;> cases j.isI <;> simp
    · rw [if_neg hk]
      simp only [List.all_cons, ih.1, ih.2]
      constructor <;> cases j.isI <;> cases k.isI <;> simp

theorem changed {r : Nat} {a : Addr} {o : MO} {h' : Heap} {t : Nat} (S : SimW W s.heap φ σ) (hr : φ[r]? = some a) (hsb : Heap.SameBut a s.heap h') (m : Ext [] s.heap φ h' φ → MDen prog w W.C h' φ a o) (q : R (σ.set r o)) : GotU W s φ R () { s with heap := h', toks := t } := by
  have X : Ext [] s.heap φ h' φ := ⟨List.prefix_refl _, fun _ h => .inl h, fun c o e hc _ => (hsb.2 c fun q => hc (q ▸ List.mem_of_getElem? hr)).trans e⟩
  exact .mk φ _ ⟨rfl, rfl, rfl⟩ X (S.set (own := []) hr (fun c o hc e => (hsb.2 c hc).trans e) (m X)).1 q

theorem put_i {h : Heap} {a : Addr} {kvs : List (Int × Value)} {es : List (K × V)} {n : Int} {v : V} {val : Value} (hsys : (a == sysModules) = false) (hm : h.DictOf (iK prog w) a (stored kvs n val)) (hn : (kvs.map (·.1)).Nodup) (dv : Den h φ val v)
    (hf : All2 (fun (x : Int × Value) (e : K × V) => e.1 = .i x.1 ∧ Den h φ x.2 e.2) kvs es) : MDen prog w W.C h φ a (.dict (put (.i n) v es)) := by
  refine ⟨hsys, ?_, fun _ => ⟨_, hm, stored_i dv hn hf⟩, fun hi => ?_⟩
  · obtain ⟨o, l, ep, e, c, q, _⟩ := hm; exact ⟨o, _, _, e, c.1, q⟩
  · rw [put_kind.2] at hi; cases hi
theorem put_t {h : Heap} {a ka : Addr} {xs : List (List Int × Addr × Value)} {es : List (K × V)} {n : List Int} {v : V} {val : Value} (hsys : (a == sysModules) = false) (hm : h.DictOfH (tK prog w) a (storedH xs n ka val)) (hn : (xs.map (·.1)).Nodup) (dv : Den h φ val v)
    (dk : Den h φ (.ref ka) (.seq true (iv n))) (hf : All2 (fun (x : List Int × Addr × Value) (e : K × V) => e.1 = .t x.1 ∧ Den h φ (.ref x.2.1) (.seq true (x.1.map .int)) ∧ Den h φ x.2.2 e.2) xs es) : MDen prog w W.C h φ a (.dict (put (.t n) v es)) := by
  refine ⟨hsys, ?_, fun hi => ?_, fun _ => ⟨_, hm, stored_t dv dk hn hf⟩⟩
  · obtain ⟨o, l, ep, e, c, q, _⟩ := hm; exact ⟨o, _, _, e, c.1, q⟩
  · rw [put_kind.1] at hi; cases hi

theorem setIdx_list {r : Nat} {a : Addr} {b val : Value} {y v : V} {xs : List V} (S : SimW W s.heap φ σ) (hr : φ[r]? = some a) (e : σ[r]? = some (.list xs)) (dy : Den s.heap φ b y) (dv : Den s.heap φ val v) (ev : atW xs y fun j _ => R (σ.set r (.list (xs.set j v)))) :
    wpAny (model prog w) A (setItem (.ref a) b val) (GotU W s φ R) E s := by
  revert dy
  refine atW.e (P := fun y => Den s.heap φ b y → _) ev fun n j _ h1 _ q dy => dy.intE fun t => ?_
  obtain ⟨items, hl, hz, d⟩ := S.at hr e
  exact setItem_plain hl hz (d.len ▸ h1) fun h' hl' hsb => changed (o := .list _) S hr hsb (fun X => ⟨_, hl', by rw [Array.size_setIfInBounds]; exact hz, by
    rw [Array.toList_setIfInBounds]; exact Dens.set (dv.mono X Bare.nil) (d.mono X Bare.nil) j⟩) q
theorem setIdx_dict (hu : A.units + 10 < cLine) {r : Nat} {a : Addr} {b val : Value} {y v : V} {es : List (K × V)} (S : SimW W s.heap φ σ) (hr : φ[r]? = some a) (e : σ[r]? = some (.dict es)) (dy : Den s.heap φ b y) (dv : Den s.heap φ val v)
    (ev : keyW y fun k => (sameKind k es = true ∧ es.length < LIM) ∧ R (σ.set r (.dict (put k v es)))) : wpAny (model prog w) A (setItem (.ref a) b val) (GotU W s φ R) E s := by
  obtain ⟨hsys, _, m1, m2⟩ := S.at hr e
  revert dy
  refine keyW.e (P := fun kx => Den s.heap φ b kx → _) ev (fun n hq dk => dk.intE fun t => ?k1) fun ns hq dk => ?k2
  case k1 =>
    have hs := hq.1
    have q := hq.2
    obtain ⟨kvs, hm, hf⟩ := m1 (kind_i hs.1)
    exact wpAny_setItem_pairs (iK_is _ _) hm (fun h' hm' hsb => changed S hr hsb (fun X => put_i hsys hm' (hm.choose_spec.choose_spec.choose_spec.2.2.2.2.2) (dv.mono X Bare.nil) (hf.mono fun _ _ q => ⟨q.1, q.2.mono X Bare.nil⟩)) q)
      (hsz := by rw [hf.length]; exact LIM_le (Nat.le_of_lt hs.2))
  case k2 =>
    have hs := hq.1
    have q := hq.2
    obtain ⟨xs, hm, hf⟩ := m2 (kind_t hs.1)
    refine dk.tupE fun ka items l hz hz' dd => ?_
    have dk : Den s.heap φ (.ref ka) (.seq true (iv ns)) := .tup l hz hz' dd
    exact wpAny_setItem_heap (knd := tK prog w) (tK_room (Nat.lt_of_le_of_lt (Nat.add_le_add_left (by decide) _) hu)) (Den.key dk) hm
      (fun h' hm' hsb => changed S hr hsb (fun X => put_t hsys hm' (hm.choose_spec.choose_spec.choose_spec.2.2.2.2.2) (dv.mono X Bare.nil) (dk.mono X Bare.nil) (hf.mono fun _ _ q => ⟨q.1, q.2.1.mono X Bare.nil, q.2.2.mono X Bare.nil⟩)) q)
      (hsz := by rw [hf.length]; exact LIM_le (Nat.le_of_lt hs.2))

theorem snd_setIdx (hu : A.units + 10 < cLine) {a b val : Value} {x y v : V} (S : SimW W s.heap φ σ) (dx : Den s.heap φ a x) (dy : Den s.heap φ b y) (dv : Den s.heap φ val v) (ev : setIdxW σ x y v R) :
    wpAny (model prog w) A (setItem a b val) (GotU W s φ R) E s := by
  unfold setIdxW at ev
  cases x with
  | ref r =>
    refine dx.refE fun a hr => ?_
    rcases ev with ⟨xs, e, ev⟩ | ⟨es, e, ev⟩
    · exact setIdx_list S hr e dy dv ev
    · exact setIdx_dict hu S hr e dy dv ev
  | _ => exact ev.elim

theorem snd_append {r : Nat} {a : Addr} {val : Value} {v : V} (S : SimW W s.heap φ σ) (hr : φ[r]? = some a) (dv : Den s.heap φ val v) (ev : appendW σ (.ref r) v R) :
    wpAny (model prog w) A (call (.builtin "list.append") [.ref a, val]) (GotQ W s φ fun v σ' => v = .nul ∧ R σ') E s := by
  unfold appendW at ev
  obtain ⟨xs, e, hlt, q⟩ := ev
  obtain ⟨items, hl, hz, d⟩ := S.at hr e
  refine wpAny_list_append_plain hl (fun h' hl' hsb => ?_) hz
  obtain ⟨φ', σ', same, ext, sim, q⟩ := changed (R := R) (o := .list _) (t := s.toks) S hr hsb (fun X => ⟨_, hl', by rw [Array.size_push, d.len]; exact LIM_le hlt, by
    rw [Array.toList_push]; exact (d.mono X Bare.nil).append (.cons (dv.mono X Bare.nil) .nil)⟩) q
  exact .mk φ' _ σ' same ext sim .nul ⟨rfl, q⟩

theorem snd_get (hu : A.units + 10 < cLine) {r : Nat} {a : Addr} {kv dv : Value} {x y : V} (S : SimW W s.heap φ σ) (hr : φ[r]? = some a) (dx : Den s.heap φ kv x) (dy : Den s.heap φ dv y) (ev : getW σ (.ref r) x y fun v => Q v σ) :
    wpAny (model prog w) A (call (.builtin "dict.get") [.ref a, kv, dv]) (GotQ W s φ Q) E s := by
  unfold getW at ev
  obtain ⟨es, e, ev⟩ := ev
  obtain ⟨hsys, ⟨ob, _, _, eo, eT, _⟩, m1, m2⟩ := S.at hr e
  have hT : s.TypeIs (.ref a) "dict" := ⟨ob, eo, eT⟩
  revert dx
  refine keyW.e (P := fun kx => Den s.heap φ kv kx → _) ev (fun n hq dk => dk.intE fun t => ?k1) fun ns hq dk => ?k2
  case k1 =>
    have hs := hq.1
    have q := hq.2
    obtain ⟨kvs, hm, hf⟩ := m1 (kind_i hs)
    have := look_i hf n
    refine call_meetsIn PySem.F.slot_dict_get hT PySem.F.entry_dict_get (PySem.F.args_dict_get_3 _ _ _) (meets_dict_get_default (iK prog w) a (iK_is _ _) hsys dv) ⟨_, hm.mapOf, GotQ.tok S ?_ q⟩
    cases hu : look (.i n) es with
    | some u => rw [hu] at this; obtain ⟨val, h1, d⟩ := this; rw [h1]; exact d
    | none => rw [hu] at this; rw [this]; exact dy
  case k2 =>
    have hs := hq.1
    have q := hq.2
    obtain ⟨xs, hm, hf⟩ := m2 (kind_t hs)
    have := look_at hf ns
    refine dk.tupE fun ka items l hz hz' dd => ?_
    refine call_meetsIn PySem.F.slot_dict_get hT PySem.F.entry_dict_get (PySem.F.args_dict_get_3 _ _ _) (meetsH_dict_get_default (tK prog w) a ka hsys dv)
      ⟨tK_room (Nat.lt_of_le_of_lt (Nat.add_le_add_left (by decide) _) hu), ns, xs, Den.key (φ := φ) (.tup l hz hz' dd), hm, GotQ.tok S ?_ q⟩
    cases hu : look (.t ns) es with
    | some u => rw [hu] at this; obtain ⟨p, h1, d⟩ := this; rw [h1]; exact d
    | none => rw [hu] at this; rw [this]; exact dy
end
end Mine
end

section
set_option autoImplicit false
set_option maxRecDepth 100000
namespace Mine
open PySem PySem.W PyProof.Rows

section
variable [Hid]
variable {prog : Program} {w : World} {W : Wd prog w}
variable {A : Around} {s : Shared} {φ : Phi} {σ σ' : St} {E : Value → Shared → Prop}

structure ItAt (W : Wd prog w) (h : Heap) (φ : Phi) (σ : St) (I : Addr) (x : V) (xs : List V) (i : Nat) : Prop where
  off : Off φ I
  new : W.h₀.get? I = none
  obj : ∃ o vs, h.get? I = some o ∧ o.data = .fields vs ∧ o.cls ≠ .type "range"
  at_ : (∃ ax items, h.IsListIter I ax i ∧ h.IsList ax items ∧ Off φ ax ∧ Dens h φ items.toList xs ∧ (∃ t, x = .seq t xs)) ∨
    (∃ ax items, h.IsTupleIter I ax i ∧ h.IsTuple ax items ∧ Off φ ax ∧ Dens h φ items.toList xs ∧ (∃ t, x = .seq t xs)) ∨
    (∃ ax r, x = .ref r ∧ h.IsListIter I ax i ∧ φ[r]? = some ax ∧ σ[r]? = some (.list xs)) ∨
    (∃ (lo : Int) (n : Nat), (∃ hi, x = .rng lo hi) ∧ xs = intRange lo n ∧ i ≤ n ∧ IsRangeIter h I (lo + (i : Nat) * 1) ((n : Int) - (i : Nat)) 1)

theorem intRange_length : ∀ (n : Nat) (lo : Int), (intRange lo n).length = n
  | 0, _ => rfl
  | n + 1, lo => by simp [intRange, intRange_length n]
theorem intRange_get : ∀ (n : Nat) (lo : Int) (i : Nat), i < n → (intRange lo n)[i]? = some (.int (lo + i))
  | 0, _, _, h => absurd h (Nat.not_lt_zero _)
  | n + 1, lo, 0, _ => by simp [intRange]
  | n + 1, lo, i + 1, h => by
    simp only [intRange, List.getElem?_cons_succ]
    rw [intRange_get n (lo + 1) i (by omega)]
    congr 2; push_cast; omega

theorem ItAt.frame {own : List Addr} {h h' : Heap} {φ φ' : Phi} {I : Addr} {x : V} {xs : List V} {i : Nat} (it : ItAt W h φ σ I x xs i) (X : Ext own h φ h' φ') (hb : Bare h own) (hI : I ∉ own) (hs : stillP σ σ' x) : ItAt W h' φ' σ' I x xs i := by
  obtain ⟨off, new, ⟨o, vs, eo, ed, ec⟩, at_⟩ := it
  have keepI : ∀ o, h.get? I = some o → h'.get? I = some o := fun o' e' => X.keep I o' e' off.1 hI
  refine ⟨X.off eo off, new, ⟨o, vs, keepI o eo, ed, ec⟩, ?_⟩
  rcases at_ with ⟨ax, items, hit, l, ha, d, ht⟩ | ⟨ax, items, hit, l, ha, d, ht⟩ | ⟨ax, r, rfl, hit, hr, hσ⟩ | ⟨lo, n, hx, hxs, hi, hit⟩
  · exact .inl ⟨ax, items, hit.at keepI, X.isList hb l ha, X.offSeq hb l ha, d.mono X hb, ht⟩
  · exact .inr (.inl ⟨ax, items, hit.at keepI, X.isTup hb l ha, X.offSeq hb l ha, d.mono X hb, ht⟩)
  · exact .inr (.inr (.inl ⟨ax, r, rfl, hit.at keepI, X.keepAt hr, Eq.trans (show σ'[r]? = σ[r]? from hs) hσ⟩))
  · exact .inr (.inr (.inr ⟨lo, n, hx, hxs, hi, keepI _ hit⟩))

theorem ItAt.bare {h : Heap} {I : Addr} {x : V} {xs : List V} {i : Nat} (it : ItAt W h φ σ I x xs i) : Bare h [I] := fun b hb => by
  obtain rfl : b = I := by simpa using hb
  obtain ⟨o, vs, e, d, c⟩ := it.obj
  exact .inr ⟨o, e, .inr (.inr ⟨⟨vs, d⟩, c⟩)⟩

theorem ItAt.notEnv {env : Env} {ρ : Rho} {m : Str → Option Value} {h : Heap} {I : Addr} {x : V} {xs : List V} {i : Nat} (it : ItAt W h φ σ I x xs i) (R : EnvAt W env h φ ρ m) : I ∉ ownOf env := fun hm => by
  obtain ⟨o, vs, e, d, c⟩ := it.obj
  rcases List.mem_cons.mp hm with rfl | hm
  · obtain ⟨o', es, ep, e', d', _⟩ := R.ns; rw [e] at e'; cases e'; rw [d] at d'; cases d'
  · obtain ⟨⟨n, c⟩, hm', rfl⟩ := List.mem_map.mp hm
    obtain ⟨⟨v, o', e', d'⟩, _⟩ := R.cell n c hm'
    rw [e] at e'; cases e'; rw [d] at d'; cases d'

theorem EnvAt.mono' {env : Env} {h h' : Heap} {φ φ' : Phi} {ρ : Rho} {m : Str → Option Value} {own : List Addr} (R : EnvAt W env h φ ρ m) (x : Ext own h φ h' φ') (hb : Bare h own) (hd : ∀ b ∈ own, b ∉ ownOf env) : EnvAt W env h' φ' ρ m where
  kind := R.kind
  glob := R.glob
  blt := R.blt
  ns := by obtain ⟨o, es, ep, e, r⟩ := R.ns; exact ⟨o, es, ep, x.keep _ _ e R.lφ (fun q => hd _ q (List.mem_cons_self)), r⟩
  lnew := R.lnew
  lφ := by obtain ⟨o, es, ep, e, r⟩ := R.ns; exact x.notIn e R.lφ
  cell := fun n c hm => by
    obtain ⟨⟨v, o, e, d⟩, h1, h2⟩ := R.cell n c hm
    exact ⟨⟨v, o, x.keep _ _ e h2 (fun q => hd _ q (List.mem_cons_of_mem _ (List.mem_map.mpr ⟨(n, c), hm, rfl⟩))), d⟩, h1, x.notIn e h2⟩
  apart := R.apart
  has := R.has
  val := fun i y v hρ hy => by
    obtain ⟨h1, h2⟩ := R.val i y v hρ hy
    refine ⟨fun hk => ?_, fun hk => ?_⟩
    · obtain ⟨val, a, d⟩ := h1 hk; exact ⟨val, a, d.mono x hb⟩
    · obtain ⟨c, val, a, ⟨o, e, q⟩, d⟩ := h2 hk
      exact ⟨c, val, a, ⟨o, x.keep _ _ e (R.cell y c (mem_of_lookup a)).2.2 (fun q => hd _ q (List.mem_cons_of_mem _ (List.mem_map.mpr ⟨(y, c), mem_of_lookup a, rfl⟩))), q⟩, d.mono x hb⟩

structure OnlyIt (I : Addr) (s s' : Shared) : Prop where
  same : Same s s'
  keep : ∀ b o, b ≠ I → s.heap.get? b = some o → s'.heap.get? b = some o
theorem OnlyIt.ext {I : Addr} {s s' : Shared} (o : OnlyIt I s s') : Ext [I] s.heap φ s'.heap φ := ⟨List.prefix_refl _, fun _ h => .inl h, fun b o' e _ hn => o.keep b o' (by simpa using hn) e⟩
theorem OnlyIt.sim {I : Addr} {s s' : Shared} {x : V} {xs : List V} {i : Nat} (o : OnlyIt I s s') (S : SimW W s.heap φ σ) (it : ItAt W s.heap φ σ I x xs i) : SimW W s'.heap φ σ := by
  have one : ∀ b ∈ [I], b = I := fun b hb => by simpa using hb
  exact (S.atOwn it.bare (fun b hb => by rw [one b hb]; exact it.new) (fun b hb => by rw [one b hb]; exact it.off.1) (fun b hb hz => absurd (one b hb ▸ hz) it.off.2) (fun b ob hb e => o.keep b ob (by simpa using hb) e)).1

theorem small_at {n : Int} (h : small n = true) : -(2 ^ 40) < n ∧ n < 2 ^ 40 := by
  unfold small at h
  obtain ⟨a, b⟩ := Bool.and_eq_true_iff.mp h
  exact ⟨of_decide_eq_true a, of_decide_eq_true b⟩
theorem rng_size (lo hi : Int) : Builtin.Range.rangeSize lo hi 1 = ((hi - lo).toNat : Int) := by
  unfold Builtin.Range.rangeSize
  split <;> omega
theorem rng_small {lo hi : Int} (h1 : small lo = true) (h2 : small hi = true) : Builtin.Range.small lo hi 1 = true := by
  have a := small_at h1
  have b := small_at h2
  unfold Builtin.Range.small
  rw [rng_size]
  simp only [Builtin.Range.rangeFitsLong, Bool.and_eq_true, Bool.or_eq_true, decide_eq_true_eq]
  refine ⟨⟨⟨⟨by omega, by omega⟩, by omega⟩, by omega⟩, .inr ?_⟩
  rw [if_pos (by omega)]
  simp only [Bool.and_eq_true, decide_eq_true_eq]
  omega
theorem it_start {a : Value} {x : V} {K : List V → Prop} {Q : Value → Shared → Prop} (S : SimW W s.heap φ σ) (d : Den s.heap φ a x) (e : overW σ x K)
    (k : ∀ I s' xs, s.heap.get? I = none → Same s s' → (∀ b o, s.heap.get? b = some o → s'.heap.get? b = some o) → SimW W s'.heap φ σ → ItAt W s'.heap φ σ I x xs 0 → K xs → Q (.ref I) s') :
    wpAny (model prog w) A (pyIter a) Q E s := by
  have D := dead s.heap
  have hk : ∀ o b o', s.heap.get? b = some o' → (s.heap.push o).get? b = some o' := fun o => keep_push o
  have hnew : W.h₀.get? s.heap.objs.size = none := by
    cases q : W.h₀.get? s.heap.objs.size with
    | none => rfl
    | some o => rw [(S.base _ _ q).1] at D; cases D
  have go : ∀ (o : Obj) (vs : Array Value) (t : Nat) (xs : List V), o.isFreed = false → o.data = .fields vs → o.cls ≠ .type "range" → _ → K xs → Q (.ref s.heap.objs.size) { s with heap := s.heap.push o, toks := t } := fun o vs t xs h0 h1 h2 h3 q =>
    k _ _ xs D ⟨rfl, rfl, rfl⟩ (hk _) (S.keep (hk _)) ⟨off_dead S D, hnew, ⟨_, _, Heap.get?_push_size _ h0, h1, h2⟩, h3⟩ q
  unfold overW at e
  cases x with
  | seq t ys =>
    cases t with
    | false => exact d.listE fun r items l ha hz d => wpAny_pyIter_list l (go _ _ _ _ rfl rfl (by simp) (.inl ⟨_, _, ⟨_, Heap.get?_push_size _ rfl, rfl, rfl⟩, l.at fun o e => hk _ _ o e, ha, d.mono (Ext.all (own := []) (hk _)) Bare.nil, _, rfl⟩) e)
    | true => exact d.tupE fun r items l ha hz d => wpAny_pyIter_tuple l (go _ _ _ _ rfl rfl (by simp) (.inr (.inl ⟨_, _, ⟨_, Heap.get?_push_size _ rfl, rfl, rfl⟩, l.at fun o e => hk _ _ o e, ha, d.mono (Ext.all (own := []) (hk _)) Bare.nil, _, rfl⟩)) e)
  | rng lo hi =>
    obtain ⟨hsm, e⟩ := e
    obtain ⟨h1, h2⟩ := Bool.and_eq_true_iff.mp hsm
    cases d with
    | rng r ha =>
      refine wpAny_pyIter_range r (rng_small h1 h2) ?_
      rw [rng_size]
      refine go _ _ _ _ rfl rfl (by simp) (.inr (.inr (.inr ⟨lo, (hi - lo).toNat, ⟨hi, rfl⟩, rfl, Nat.zero_le _, ?_⟩))) e
      have := Heap.get?_push_size s.heap (o := { cls := .type "range_iterator", data := .fields #[rawInt lo, rawInt (((hi - lo).toNat : Int)), rawInt 1] }) rfl
      simpa [IsRangeIter] using this
  | ref r =>
    obtain ⟨ys, q, e⟩ := e
    refine d.refE fun a hr => ?_
    obtain ⟨items, l, hz, dd⟩ := S.at hr q
    exact wpAny_pyIter_list l.isList (go _ _ _ _ rfl rfl (by simp) (.inr (.inr (.inl ⟨_, r, rfl, ⟨_, Heap.get?_push_size _ rfl, rfl, rfl⟩, hr, q⟩))) e)
  | _ => exact e.elim

theorem it_next {I : Addr} {x v : V} {xs : List V} {i : Nat} {Q : Option Value → Shared → Prop} (S : SimW W s.heap φ σ) (it : ItAt W s.heap φ σ I x xs i) (hv : xs[i]? = some v)
    (k : ∀ val s', OnlyIt I s s' → SimW W s'.heap φ σ → ItAt W s'.heap φ σ I x xs (i + 1) → Den s'.heap φ val v → Q (some val) s') : wpAny (model prog w) A (pyNext (.ref I)) Q E s := by
  have hb := it.bare
  obtain ⟨off, new, ⟨o, vs, eo, ed, ec⟩, at_⟩ := id it
  have hIseq : ∀ {a : Addr} {oa : Obj} {its : Array Value} {n : Nat}, s.heap.get? a = some oa → oa.data = .seq its n → a ≠ I := fun e d => by rintro rfl; rw [eo] at e; cases e; rw [ed] at d; cases d
  rcases at_ with ⟨ax, items, hit, hl, ha, d, ht⟩ | ⟨ax, items, hit, hl, ha, d, ht⟩ | ⟨ax, r, rfl, hit, hr, hσ⟩ | ⟨lo, n, hx, rfl, hi, hit⟩
  · obtain ⟨val, h1, dv⟩ := d.get hv
    obtain ⟨ol, el, cl, n, dl⟩ := id hl
    refine wpAny_pyNext_list_item hit hl (by simpa using h1) fun h' hit' hs' => ?_
    have oi : OnlyIt I s { s with heap := h' } := ⟨⟨rfl, rfl, rfl⟩, fun b o hb e => (hs'.2 b hb).trans e⟩
    refine k _ _ oi (oi.sim S it) ⟨off, new, ?_, .inl ⟨ax, items, hit', hl.extBut hs'.extBut (hIseq el dl), ha, d.mono oi.ext hb, ht⟩⟩ (dv.mono oi.ext hb)
    obtain ⟨o', e', c', d'⟩ := hit'
    exact ⟨o', _, e', d', by rw [c']; simp⟩
  · obtain ⟨val, h1, dv⟩ := d.get hv
    obtain ⟨ol, el, cl, n, dl⟩ := id hl
    refine wpAny_pyNext_tuple_item hit hl (by simpa using h1) fun h' hit' hs' => ?_
    have oi : OnlyIt I s { s with heap := h' } := ⟨⟨rfl, rfl, rfl⟩, fun b o hb e => (hs'.2 b hb).trans e⟩
    refine k _ _ oi (oi.sim S it) ⟨off, new, ?_, .inr (.inl ⟨ax, items, hit', hl.extBut hs'.extBut (hIseq el dl), ha, d.mono oi.ext hb, ht⟩)⟩ (dv.mono oi.ext hb)
    obtain ⟨o', e', c', d'⟩ := hit'
    exact ⟨o', _, e', d', by rw [c']; simp⟩
  · obtain ⟨items, l, hz, d⟩ := S.at hr hσ
    obtain ⟨val, h1, dv⟩ := d.get hv
    refine wpAny_pyNext_list_item hit l.isList (by simpa using h1) fun h' hit' hs' => ?_
    have oi : OnlyIt I s { s with heap := h' } := ⟨⟨rfl, rfl, rfl⟩, fun b o hb e => (hs'.2 b hb).trans e⟩
    refine k _ _ oi (oi.sim S it) ⟨off, new, ?_, .inr (.inr (.inl ⟨ax, r, rfl, hit', hr, hσ⟩))⟩ (dv.mono oi.ext hb)
    obtain ⟨o', e', c', d'⟩ := hit'
    exact ⟨o', _, e', d', by rw [c']; simp⟩
  · have hlt : i < n := by
      have := (List.getElem?_eq_some_iff.mp hv).1
      rwa [intRange_length] at this
    rw [intRange_get n lo i hlt] at hv
    cases hv
    refine wpAny_pyNext_range_item hit (by omega) fun h' hit' hs' => ?_
    have oi : OnlyIt I s { s with heap := h', toks := s.toks + 1 } := ⟨⟨rfl, rfl, rfl⟩, fun b o hb e => (hs'.2 b hb).trans e⟩
    have e1 : lo + (i : Int) * 1 + 1 = lo + ((i + 1 : Nat) : Int) * 1 := by push_cast; omega
    have e2 : (n : Int) - (i : Int) - 1 = (n : Int) - ((i + 1 : Nat) : Int) := by push_cast; omega
    rw [e1, e2] at hit'
    refine k _ _ oi (oi.sim S it) ⟨off, new, ⟨_, _, hit', rfl, by simp⟩, .inr (.inr (.inr ⟨lo, n, hx, rfl, by omega, hit'⟩))⟩ ?_
    rw [Int.mul_one]; exact .int _ _

theorem it_end {I : Addr} {x : V} {xs : List V} {i : Nat} {Q : Option Value → Shared → Prop} (hh : A.handled = none) (S : SimW W s.heap φ σ) (it : ItAt W s.heap φ σ I x xs i) (hv : xs.length ≤ i)
    (k : ∀ s', OnlyIt I s s' → SimW W s'.heap φ σ → Q none s') : wpAny (model prog w) A (pyNext (.ref I)) Q E s := by
  obtain ⟨off, new, ⟨o, vs, eo, ed, ec⟩, at_⟩ := id it
  have fin : ∀ h', Heap.ExtBut I s.heap h' → Q none { s with heap := h' } := fun h' he => by
    have oi : OnlyIt I s { s with heap := h' } := ⟨⟨rfl, rfl, rfl⟩, fun b o hb e => he b o hb e⟩
    exact k _ oi (oi.sim S it)
  rcases at_ with ⟨ax, items, hit, hl, ha, d, ht⟩ | ⟨ax, items, hit, hl, ha, d, ht⟩ | ⟨ax, r, rfl, hit, hr, hσ⟩ | ⟨lo, n, hx, rfl, hi, hit⟩
  · exact wpAny_pyNext_list_end hh hit hl (by have := d.length; simp at this ⊢; omega) fin
  · exact wpAny_pyNext_tuple_end hh hit hl (by have := d.length; simp at this ⊢; omega) fin
  · obtain ⟨items, l, hz, d⟩ := S.at hr hσ
    exact wpAny_pyNext_list_end hh hit l.isList (by have := d.length; simp at this ⊢; omega) fin
  · rw [intRange_length] at hv
    exact wpAny_pyNext_range_end hh hit (by omega) fin

theorem it_self {I : Addr} {x : V} {xs : List V} {i : Nat} {Q : Value → Shared → Prop} (it : ItAt W s.heap φ σ I x xs i) (k : Q (.ref I) s) : wpAny (model prog w) A (pyIter (.ref I)) Q E s := by
  rcases it.at_ with ⟨ax, items, hit, hl, ha, d, ht⟩ | ⟨ax, items, hit, hl, ha, d, ht⟩ | ⟨ax, r, rfl, hit, hr, hσ⟩ | ⟨lo, n, hx, rfl, hi, hit⟩
  · exact wpAny_pyIter_listiter hit k
  · exact wpAny_pyIter_tupleiter hit k
  · exact wpAny_pyIter_listiter hit k
  · exact wpAny_pyIter_rangeiter hit k
end
end Mine
end

section
set_option autoImplicit false
set_option maxRecDepth 100000
namespace Mine
open PySem PySem.W PyProof.Rows

section
variable [Hid]
variable {prog : Program} {w : World} {W : Wd prog w}
variable {A : Around} {s : Shared} {φ : Phi} {σ σ' : St} {E : Value → Shared → Prop} {R : St → Prop} {Q : V → St → Prop}

theorem Wd.kAt {h : Heap} (S : SimW W h φ σ) : W.K.In h := fun a o e => (S.base a o (W.kin a o e)).1

theorem attrCode_get {x : Str} {k : Nat} (h : attrCode x = some k) : attrs[k]? = some x := by
  obtain ⟨j, h1, h2⟩ := code_nms h
  obtain rfl : k = j := by omega
  exact h2
theorem fnCode_get {x : Str} {k : Nat} (h : fnCode x = some k) : fns[k]? = some x := by
  obtain ⟨j, h1, h2⟩ := code_nms h
  obtain rfl : k = j := by omega
  exact h2
theorem attrs_nodup : attrs.Nodup := by decide +kernel
theorem attrs_inj {i j : Nat} {x : Str} (h : attrs[i]? = some x) (g : attrs[j]? = some x) : i = j :=
  (List.getElem?_inj (List.getElem?_eq_some_iff.mp h).1 attrs_nodup).mp (h.trans g.symm)

theorem isStr_eq {x y : Str} {t : Tok} : (Value.str x t).isStr y = (x == y) := rfl

theorem str_ne {x y : Str} {k j : Nat} (hx : attrs[k]? = some x) (hy : attrs[j]? = some y) (q : j ≠ k) : (y == x) = false := by
  cases hb : y == x with
  | false => rfl
  | true => rw [beq_iff_eq.mp hb] at hy; exact absurd (attrs_inj hy hx) q
theorem ns_find {h : Heap} {x : Str} {k : Nat} {v : V} (hx : attrs[k]? = some x) {l : List DictEntry} {es : List (Nat × V)} (d : NsD h φ l es) (hv : nsLookup k es = some v) : ∃ e, l.find? (·.key.isStr x) = some e ∧ Den h φ e.val v := by
  induction d with
  | nil => cases hv
  | @cons e ju l es p r ih =>
    obtain ⟨j, u⟩ := ju
    obtain ⟨⟨y, t, hy, hk⟩, d⟩ := p
    have hy : attrs[j]? = some y := hy
    unfold nsLookup at hv
    by_cases q : j = k
    · subst q
      rw [if_pos rfl] at hv
      cases hv
      rw [hx] at hy; cases hy
      exact ⟨e, by rw [List.find?_cons, hk, isStr_eq, beq_self_eq_true], d⟩
    · rw [if_neg q] at hv
      obtain ⟨e', h1, h2⟩ := ih hv
      exact ⟨e', by rw [List.find?_cons, hk, isStr_eq, str_ne hx hy q]; exact h1, h2⟩
theorem ns_none {h : Heap} {x : Str} (hx : x ∉ attrs) {l : List DictEntry} {es : List (Nat × V)} (d : NsD h φ l es) : l.find? (·.key.isStr x) = none ∧ l.any (·.refKey) = false := by
  induction d with
  | nil => exact ⟨rfl, rfl⟩
  | @cons e ju l es p r ih =>
    obtain ⟨j, u⟩ := ju
    obtain ⟨⟨y, t, hy, hk⟩, d⟩ := p
    have hy : attrs[j]? = some y := hy
    have : (y == x) = false := by
      cases hb : y == x with
      | false => rfl
      | true => rw [beq_iff_eq.mp hb] at hy; exact absurd (List.mem_of_getElem? hy) hx
    have hr : e.refKey = false := by unfold DictEntry.refKey; rw [hk]
    exact ⟨by rw [List.find?_cons, hk, isStr_eq, this]; exact ih.1, by rw [List.any_cons, hr, ih.2]; rfl⟩
theorem ns_ref {h : Heap} {l : List DictEntry} {es : List (Nat × V)} (d : NsD h φ l es) : l.any (·.refKey) = false := by
  induction d with
  | nil => rfl
  | @cons e ju l es p r ih =>
    obtain ⟨⟨y, t, hy, hk⟩, d⟩ := p
    have hr : e.refKey = false := by unfold DictEntry.refKey; rw [hk]
    rw [List.any_cons, hr, ih]; rfl
theorem ns_put {h : Heap} {x : Str} {k : Nat} {v : V} {val : Value} {hsh : Int} {tk : Tok} (hx : attrs[k]? = some x) (dv : Den h φ val v) {l : List DictEntry} {es : List (Nat × V)} (d : NsD h φ l es) : NsD h φ (putL x hsh (.str x tk) val l) (nsPut k v es) := by
  induction d with
  | nil => exact .cons ⟨⟨x, tk, hx, rfl⟩, dv⟩ .nil
  | @cons e ju l es p r ih =>
    obtain ⟨j, u⟩ := ju
    obtain ⟨⟨y, t, hy, hk⟩, d⟩ := p
    have hy : attrs[j]? = some y := hy
    unfold putL nsPut
    by_cases q : j = k
    · subst q
      rw [hx] at hy; cases hy
      rw [if_pos rfl, hk, isStr_eq, beq_self_eq_true, if_pos rfl]
      exact .cons ⟨⟨x, t, hx, rfl⟩, dv⟩ r
    · rw [if_neg q, hk, isStr_eq, str_ne hx hy q, if_neg Bool.false_ne_true]
      exact .cons ⟨⟨y, t, hy, hk⟩, d⟩ ih

theorem inst_at {h : Heap} (S : SimW W h φ σ) {r d : Nat} {a : Addr} {es : List (Nat × V)} (hr : φ[r]? = some a) (ho : σ[r]? = some (.inst d)) (hd : σ[d]? = some (.ns es)) :
    ∃ da l n, φ[d]? = some da ∧ h.get? da = some (dictOf l n) ∧ NsD h φ l es ∧ InstAt h a ⟨.ref W.C, some da, .plain, #[]⟩ W.C (some (dictOf l n)) := by
  obtain ⟨da, h1, h2⟩ := S.at hr ho
  obtain ⟨l, n, h3, h4⟩ := S.at h1 hd
  exact ⟨da, l, n, h1, h3, h4, ⟨h2, rfl, rfl, h3⟩⟩

theorem handedIn_den {h : Heap} {val : Value} {v : V} (d : Den h φ val v) : handedIn val = true := by cases d <;> rfl

theorem snd_attr {x : Str} {k : Nat} (hx : attrCode x = some k) {a : Value} {o : V} {expr : Bool} (S : SimW W s.heap φ σ) (d : Den s.heap φ a o) (ev : attrW σ o k fun v => Q v σ) :
    wpAny (model prog w) A (getAttr a x expr) (GotQ W s φ Q) E s := by
  unfold attrW at ev
  cases o with
  | ref r =>
    obtain ⟨dd, es, v, q, q2, hv, ev⟩ := ev
    refine d.refE fun a hr => ?_
    obtain ⟨da, l, n, h1, h2, h3, I⟩ := inst_at S hr q q2
    have hx' := attrCode_get hx
    obtain ⟨e, h4, h5⟩ := ns_find hx' h3 hv
    obtain ⟨cd, c1, c2⟩ := W.ok.cd
    refine get_value (Wd.kAt S) I W.ok.ga (v := e.val) ?_ (handedIn_den h5) (GotQ.tok S h5 ev)
    unfold findObj
    rw [c1, Option.bind_some, W.ok.attr x (List.mem_of_getElem? hx')]
    unfold PySem.W.ownOf
    rw [Option.bind_some, c2, if_pos rfl]
    unfold lookIn
    dsimp only
    rw [h4]; rfl
  | _ => exact ev.elim

theorem putL_length {x : Str} {hsh : Int} {key v : Value} : ∀ {l : List DictEntry}, (putL x hsh key v l).length ≤ l.length + 1
  | [] => by simp [putL]
  | e :: r => by
    have := putL_length (x := x) (hsh := hsh) (key := key) (v := v) (l := r)
    unfold putL; split <;> simp <;> omega

theorem NsD.mono' {own : List Addr} {h h' : Heap} {φ φ' : Phi} (x : Ext own h φ h' φ') (hb : Bare h own) {l : List DictEntry} {es : List (Nat × V)} (d : NsD h φ l es) : NsD h' φ' l es := All2.mono (fun _ _ q => ⟨q.1, q.2.mono x hb⟩) d

theorem snd_setAttr {x : Str} {k : Nat} (hx : attrCode x = some k) {a val : Value} {o v : V} (S : SimW W s.heap φ σ) (d : Den s.heap φ a o) (dv : Den s.heap φ val v) (ev : setAttrW σ o k v R) :
    wpAny (model prog w) A (setAttr a x val) (GotU W s φ R) E s := by
  unfold setAttrW at ev
  cases o with
  | ref r =>
    obtain ⟨dd, es, q, q2, hlen, ev⟩ := ev
    refine d.refE fun a hr => ?_
    obtain ⟨da, l, n, h1, h2, h3, I⟩ := inst_at S hr q q2
    have hx' := attrCode_get hx
    obtain ⟨cd, c1, c2⟩ := W.ok.cd
    have hll : l.length = es.length := h3.length
    refine set_plain (Wd.kAt S) I W.ok.sa ?_
    refine osa_open (s := { s with toks := s.toks + 1 }) (Wd.kAt S) I W.ok.over (r := none) ?_ fun b => ?_
    · unfold takerIn
      rw [W.ok.attr x (List.mem_of_getElem? hx')]; rfl
    · dsimp only
      refine wpAny_bind (wpAny_pure (wpAny_bind (wpAny_bind (wpAny_loadPart I.at_ (wpAny_bind ((looks_clsIn (Wd.kAt S) c1).at ?_))))))
      rw [c2]
      refine wpAny_pure (a := some da) (wpAny_bind (wpAny_pure (wpAny_bind ?_)))
      unfold nsSet
      refine wpAny_bind (wpAny_bind (wpAny_askSetting (wpAny_pure (wpAny_bind (wpAny_mkText (wpAny_bind (wpAny_loadPart h2 ?_)))))))
      dsimp only
      have c : (!l.toArray.any (·.key.isStr x) && l.toArray.any (·.refKey)) = false := by
        rw [← Array.any_toList, ← Array.any_toList]
        have := ns_ref h3
        rw [show l.toArray.toList = l from rfl, this, Bool.and_false]
      rw [aRefKeyMayBeTheName_at, c]
      refine wpAny_updatePart h2 ?_
      generalize hsh : (if x.cps.isEmpty = true then 0 else reduceHash ((model prog w).w.params.strHash x.cps)) = hs
      have e1 := putName_dict x hs (.str x (s.toks + 1)) val l n
      have e2 := Heap.get?_update_self (h := s.heap) (Obj.putName x hs (.str x (s.toks + 1)) val) h2 (by rw [e1]; rfl)
      rw [e1] at e2
      have hsb : Heap.SameBut da s.heap (s.heap.update da (Obj.putName x hs (.str x (s.toks + 1)) val)) := Heap.SameBut.update ..
      have hle := putL_length (x := x) (hsh := hs) (key := .str x (s.toks + 1)) (v := val) (l := l)
      refine wpAny_bind (wpAny_lookBehind e2 (by exact pastItsLine_dict (by rw [List.size_toArray, sizeLine_eq]; omega)) ?_)
      exact wpAny_pure (changed (o := .ns _) S h1 hsb (fun X => ⟨_, _, e2, ns_put hx' (dv.mono X Bare.nil) (NsD.mono' X Bare.nil h3)⟩) ev)
  | _ => exact ev.elim
end
end Mine
end

section
set_option autoImplicit false
set_option maxRecDepth 100000
namespace Mine
open PySem PySem.W PyProof.Rows

structure RoomC (A : Around) (n : Nat) : Prop where
  handled : A.handled = none
  depth : A.depth + 2 * n ≤ 901
  units : A.units + 40 * n + 200 ≤ 9930
theorem Room.toC {A : Around} {n : Nat} (R : Room A n) : RoomC A n := ⟨R.handled, by have := R.depth; omega, by have := R.units; omega⟩

section
variable [Hid]
variable {prog : Program} {w : World} {W : Wd prog w}
variable {A : Around} {s : Shared} {φ : Phi} {σ σ' : St} {E : Value → Shared → Prop} {Q : V → St → Prop}

omit [Hid] in
noncomputable def CalOk (W : Wd prog w) (n : Nat) (cal : PC) : Prop :=
  ∀ [Hid] (A : Around) (s : Shared) (φ : Phi) (σ : St) (f : Nat) (vals : List Value) (args : List V) (Q : V → St → Prop), RoomC A n → f < 27 → SimW W s.heap φ σ → Dens s.heap φ vals args → cal f args σ Q →
    codeAny (model prog w) A (.call (.ref (W.fa f)) ⟨vals, []⟩) (fun r s' => match r with | .ok (.ret val) => GotQ W s φ Q val s' | _ => False) s

theorem snd_call {n : Nat} {cal : PC} (H : CalOk W n cal) (R : RoomC A n) {f : Nat} (hf : f < 27) {vals : List Value} {args : List V} (S : SimW W s.heap φ σ) (d : Dens s.heap φ vals args) (ev : Cl cal f args σ Q) :
    wpAny (model prog w) A (call (.ref (W.fa f)) vals) (GotQ W s φ Q) E s := by
  refine wpAny_call (codeAny_mono (H A s φ σ f vals args Q R hf S d ev.out) fun r s' z => ?_)
  rcases r with e | (v | _ | _ | _) <;> first | exact z | exact z.elim

theorem meth_not_attr {f : Nat} {x : Str} (hf : isMethod f = true) (hx : fns[f]? = some x) : x ∉ attrs ∧ f < 27 := by
  have h27 : f < fns.length := (List.getElem?_eq_some_iff.mp hx).1
  have hall : ∀ f < fns.length, isMethod f = true → ∀ x, fns[f]? = some x → x ∉ attrs := by decide +kernel
  exact ⟨hall f h27 hf x hx, h27⟩

theorem snd_method {f : Nat} {x : Str} {a : Value} {o : V} {pl : Sem Bool} {K : Prop} {P : Value × List Value → Shared → Prop} (hf : isMethod f = true) (hx : fns[f]? = some x) (S : SimW W s.heap φ σ) (d : Den s.heap φ a o) (hi : instW σ o K)
    (k : K → P (.ref (W.fa f), [a]) s) : wpAny (model prog w) A (getMethod a x pl) P E s := by
  unfold instW at hi
  cases o with
  | ref r =>
    obtain ⟨dd, es, q, q2, e⟩ := hi
    revert k
    refine d.refE fun a hr k => ?_
    obtain ⟨da, l, n, h1, h2, h3, I⟩ := inst_at S hr q q2
    obtain ⟨hxa, hf27⟩ := meth_not_attr hf hx
    obtain ⟨n1, n2⟩ := ns_none hxa h3
    refine method_fn (Wd.kAt S) I W.ok.ga W.ok.gh (W.ok.meth f x hf hx) (W.ok.func f hf27) ?_ (k e)
    unfold shadowIn lookIn
    simp only [n1, n2, Bool.false_eq_true, if_false, Option.map_some, Option.isSome_none]
  | _ => exact hi.elim

theorem creation_room {n : Nat} (R : Room A n) {C : Addr} {rest : List Value} {kw : List (Str × Value)} : RoomC (A.under (.builtin "type.__call__" ⟨.ref C :: rest, kw⟩)) n := by
  have h1 := R.depth
  have h2 := R.units
  have hw : (Code.builtin "type.__call__" ⟨.ref C :: rest, kw⟩).weight ≤ 1 := by
    have : (Code.builtin "type.__call__" ⟨.ref C :: rest, kw⟩).frames = 0 := by kernel_rfl
    have h2 : (Code.builtin "type.__call__" ⟨.ref C :: rest, kw⟩).isGuard = false := by show guardIds.contains "type.__call__" = false; decide +kernel
    have h3 : (Code.builtin "type.__call__" ⟨.ref C :: rest, kw⟩).isCaller = false := by kernel_rfl
    unfold Code.weight; rw [this, h2, h3]; split <;> simp
  have hu : (Code.builtin "type.__call__" ⟨.ref C :: rest, kw⟩).cUnits ≤ 10 := by
    have : (Code.builtin "type.__call__" ⟨.ref C :: rest, kw⟩).cUnits = (Code.builtin "type.__call__" ⟨[], []⟩).cUnits := by kernel_rfl
    rw [this]; decide +kernel
  refine ⟨R.handled, ?_, ?_⟩
  · show A.depth + _ + _ ≤ _; omega
  · show A.units + _ + _ + _ ≤ _; omega

theorem snd_new {n : Nat} {cal : PC} (H : CalOk W n cal) (R : Room A n) (S : SimW W s.heap φ σ) (ev : Cl cal 0 [.ref (σ.length + 1)] (σ ++ [.ns [], .inst σ.length]) fun v σ₁ => v = .nul ∧ Q (.ref (σ.length + 1)) σ₁) :
    wpAny (model prog w) A (call (.ref W.C) []) (GotQ W s φ Q) E s := by
  obtain ⟨h, g, dr, t, os⟩ := s
  refine wpAny_call ?_
  have S1 := S.push (own := []) (a := h.objs.size) (o := .ns []) (h' := h.push emptyDict) (dead h) (keep_push _) ⟨[], 0, Heap.get?_push_size _ rfl, .nil⟩
  have e2 : (h.push emptyDict).objs.size = h.objs.size + 1 := Heap.size_push ..
  have S2 := S1.1.push (own := []) (a := (h.push emptyDict).objs.size) (o := .inst σ.length) (h' := (h.push emptyDict).push (instObj W.C h.objs.size)) (dead _) (keep_push _)
    ⟨h.objs.size, by rw [← S.len, List.append_assoc, List.getElem?_append_right (Nat.le_refl _), Nat.sub_self]; rfl, Heap.get?_push_size _ rfl⟩
  have X := S1.2.trans S2.2
  rw [e2, List.append_assoc] at S2
  rw [e2, List.append_assoc] at X
  obtain ⟨S3, X3⟩ := S2
  rw [List.append_assoc] at S3
  have K0 : W.K.In h := Wd.kAt S
  have dself : Den ((h.push emptyDict).push (instObj W.C h.objs.size)) (φ ++ [h.objs.size, h.objs.size + 1]) (.ref (h.objs.size + 1)) (.ref (σ.length + 1)) := .ref (by
    rw [← S.len, List.getElem?_append_right (Nat.le_succ _), Nat.succ_eq_add_one, Nat.add_sub_cancel_left]; rfl)
  refine make_core (makes_of K0 W.ok.makes) (looks_findIn K0 W.ok.init) (fun self => bind_fn K0 self (W.ok.func 0 (by decide))) (.inl rfl) ?_
  refine codeAny_mono (H _ ⟨(h.push emptyDict).push (instObj W.C h.objs.size), g, dr, t, os⟩ _ _ 0 [.ref (h.objs.size + 1)] _ _ (creation_room R) (by decide) S3 (.cons dself .nil) ev.out) fun r s' z => ?_
  rcases r with e | (v | _ | _ | _) <;> try exact z.elim
  obtain ⟨φ', v', σ₁, hs, X', S', D', rfl, q⟩ := z
  cases D'
  exact ⟨rfl, .mk φ' _ σ₁ ⟨hs.1, hs.2.1, hs.2.2⟩ (X.trans X') S' (dself.mono X' Bare.nil) q⟩
end
end Mine
end

section
set_option autoImplicit false
set_option maxRecDepth 100000
namespace Mine
open PySem PySem.W PyProof.Rows

section
variable {prog : Program} {w : World} (W : Wd prog w) (cal : PC) (N : Nat)

noncomputable def OkE (sc : Scope) (e : Expr) (t : T) : Prop :=
  ∀ [Hid] (A : Around) (s : Shared) (env : Env) (φ : Phi) (σ : St) (ρ : Rho) (Q : V → St → Prop) (E : Value → Shared → Prop), Room A N → ScopeOk sc env → EnvRel W env s.heap φ ρ → SimW W s.heap φ σ → Ev t cal ρ σ Q →
    wpAny (model prog w) A (eval e env) (GotQ W s φ Q) E s
noncomputable def OkB (sc : Scope) (e : Expr) (t : T) : Prop :=
  ∀ [Hid] (A : Around) (s : Shared) (env : Env) (φ : Phi) (σ : St) (ρ : Rho) (K : Bool → St → Prop) (E : Value → Shared → Prop), Room A N → ScopeOk sc env → EnvRel W env s.heap φ ρ → SimW W s.heap φ σ → Ev t cal ρ σ (fun v σ' => boolW v fun b => K b σ') →
    wpAny (model prog w) A (isTrue e env (eval e env)) (GotB W s φ K) E s
noncomputable def OkL (sc : Scope) (es : List Expr) (ts : Ts) : Prop :=
  (∀ env, (starEach es env).all (fun x => !x.1) = true) ∧
  ∀ [Hid] (A : Around) (s : Shared) (env : Env) (φ : Phi) (σ : St) (ρ : Rho) (Q : List V → St → Prop) (E : Value → Shared → Prop) (pos : Pos), Room A N → ScopeOk sc env → EnvRel W env s.heap φ ρ → SimW W s.heap φ σ → Evs ts cal ρ σ Q →
    wpAny (model prog w) A (spliced (backTo pos (starEach es env))) (GotL W s φ Q) E s
noncomputable def OkO (sc : Scope) (e : Option Expr) (t : T) : Prop :=
  ∀ [Hid] (A : Around) (s : Shared) (env : Env) (φ : Phi) (σ : St) (ρ : Rho) (Q : V → St → Prop) (E : Value → Shared → Prop), Room A N → ScopeOk sc env → EnvRel W env s.heap φ ρ → SimW W s.heap φ σ → Ev t cal ρ σ Q →
    wpAny (model prog w) A (evalPart e env) (GotQ W s φ Q) E s
end

section
variable [Hid]
variable {prog : Program} {w : World} {W : Wd prog w} {cal : PC} {N : Nat} {sc : Scope}
variable {A : Around} {s s₁ : Shared} {φ φ₁ : Phi} {σ σ' : St} {E : Value → Shared → Prop} {Q : V → St → Prop}

theorem wpV {m : Sem Value} {P : Value → Shared → Prop} (h : wpAny (model prog w) A m (GotQ W s φ Q) E s)
    (k : ∀ val s₁ φ₁ v σ₁, Same s s₁ → Ext [] s.heap φ s₁.heap φ₁ → SimW W s₁.heap φ₁ σ₁ → Den s₁.heap φ₁ val v → Q v σ₁ → P val s₁) : wpAny (model prog w) A m P E s :=
  wpAny_mono h (fun val s₁ g => g.rec fun φ₁ v σ₁ a b c d e => k val s₁ φ₁ v σ₁ a b c d e) fun _ _ z => z
theorem wpB {m : Sem Bool} {K : Bool → St → Prop} {P : Bool → Shared → Prop} (h : wpAny (model prog w) A m (GotB W s φ K) E s)
    (k : ∀ b s₁ φ₁ σ₁, Same s s₁ → Ext [] s.heap φ s₁.heap φ₁ → SimW W s₁.heap φ₁ σ₁ → K b σ₁ → P b s₁) : wpAny (model prog w) A m P E s :=
  wpAny_mono h (fun val s₁ g => g.rec fun φ₁ σ₁ a b c e => k val s₁ φ₁ σ₁ a b c e) fun _ _ z => z
theorem wpL {m : Sem (List Value)} {Q : List V → St → Prop} {P : List Value → Shared → Prop} (h : wpAny (model prog w) A m (GotL W s φ Q) E s)
    (k : ∀ vals s₁ φ₁ vs σ₁, Same s s₁ → Ext [] s.heap φ s₁.heap φ₁ → SimW W s₁.heap φ₁ σ₁ → Dens s₁.heap φ₁ vals vs → Q vs σ₁ → P vals s₁) : wpAny (model prog w) A m P E s :=
  wpAny_mono h (fun val s₁ g => g.rec fun φ₁ v σ₁ a b c d e => k val s₁ φ₁ v σ₁ a b c d e) fun _ _ z => z
theorem wpU {m : Sem Unit} {R : St → Prop} {P : Unit → Shared → Prop} (h : wpAny (model prog w) A m (GotU W s φ R) E s)
    (k : ∀ s₁ φ₁ σ₁, Same s s₁ → Ext [] s.heap φ s₁.heap φ₁ → SimW W s₁.heap φ₁ σ₁ → R σ₁ → P () s₁) : wpAny (model prog w) A m P E s :=
  wpAny_mono h (fun val s₁ g => g.rec fun φ₁ σ₁ a b c e => k s₁ φ₁ σ₁ a b c e) fun _ _ z => z
theorem wpV' {m : Sem Value} (hs : Same s s₁) (X : Ext [] s.heap φ s₁.heap φ₁) (h : wpAny (model prog w) A m (GotQ W s₁ φ₁ Q) E s₁) : wpAny (model prog w) A m (GotQ W s φ Q) E s₁ :=
  wpV h fun _ _ φ₂ v σ₂ a b c d e => .mk φ₂ v σ₂ (hs.trans a) (X.trans b) c d e
theorem wpB' {m : Sem Bool} {K : Bool → St → Prop} (hs : Same s s₁) (X : Ext [] s.heap φ s₁.heap φ₁) (h : wpAny (model prog w) A m (GotB W s₁ φ₁ K) E s₁) : wpAny (model prog w) A m (GotB W s φ K) E s₁ :=
  wpB h fun _ _ φ₂ σ₂ a b c d => .mk φ₂ σ₂ (hs.trans a) (X.trans b) c d
theorem wpU' {m : Sem Unit} {R : St → Prop} (hs : Same s s₁) (X : Ext [] s.heap φ s₁.heap φ₁) (h : wpAny (model prog w) A m (GotU W s₁ φ₁ R) E s₁) : wpAny (model prog w) A m (GotU W s φ R) E s₁ :=
  wpU h fun _ φ₂ σ₂ a b c d => .mk φ₂ σ₂ (hs.trans a) (X.trans b) c d

theorem toB {s' : Shared} {P : Bool → Shared → Prop} {val : Value} {v : V} {K : Bool → Prop} {φ' : Phi} (d : Den s'.heap φ' val v) (e : boolW v K) (k : ∀ b, K b → P b s') : wpAny (model prog w) A (truthy val) P E s' := by
  revert d
  exact boolW.e (P := fun v => Den s'.heap φ' val v → _) e fun b q d => d.boolE (wpAny_truthy_bool (k b q))

omit [Hid] in
theorem OkB.plain {e : Expr} {t : T} (h : OkE W cal N sc e t) (he : ∀ env whole, isTrue e env whole = (do let v ← whole; standAt e.pos; holding [v] (truthy v))) : OkB W cal N sc e t := by
  intro _ A s env φ σ ρ K E R so re S ev
  exact isTrue_plain (wpV (h A s env φ σ ρ _ E R so re S ev) fun val s₁ φ₁ v σ₁ hs X S₁ D q => toB D q fun b q => .mk φ₁ σ₁ hs X S₁ q) (he env _)

omit [Hid] in
theorem OkE.int {i : Int} {k pos} : OkE W cal N sc (.Constant (.int i) k pos) (.lit (.int i)) := by
  intro _ A s env φ σ ρ Q E R so re S ev
  exact wpAny_Constant_int (.tok S (.int _ _) ev)
omit [Hid] in
theorem OkE.boolC {b : Bool} {k pos} : OkE W cal N sc (.Constant (.bool b) k pos) (.lit (.bool b)) := by
  intro _ A s env φ σ ρ Q E R so re S ev
  exact Constant_bool (.here S (.bool _) ev)
omit [Hid] in
theorem OkE.noneC {k pos} : OkE W cal N sc (.Constant .none k pos) (.lit .nul) := by
  intro _ A s env φ σ ρ Q E R so re S ev
  exact Constant_none (.here S .nul ev)

theorem not_debug {x : Str} {i : Nat} (h : nms[i]? = some x) : (x == ("__debug__" : Str)) = false := by
  have hne : ∀ y ∈ nms, (y == ("__debug__" : Str)) = false := by decide +kernel
  exact hne x (List.mem_of_getElem? h)
theorem varW.e {o : Option V} {K : V → Prop} {P : Prop} (h : varW o K) (k : ∀ v, o = some v → K v → P) : P := match o, h with | some v, h => k v rfl h
omit [Hid] in
theorem OkE.var {x : Str} {i : Nat} {pos} (hx : isVar sc x = true) (hi : code x = some i) : OkE W cal N sc (.Name x pos) (.var i) := by
  intro _ A s env φ σ ρ Q E R so re S ev
  exact varW.e ev fun v h1 q => wpAny_Name (ld_var re so hx (code_get hi) h1 fun val d => .here S d q) (not_debug (code_get hi))
omit [Hid] in
theorem OkE.const {x : Str} {i : Int} {pos} (hx : isGlob sc x = true) (hi : constOf x = some i) : OkE W cal N sc (.Name x pos) (.lit (.int i)) := by
  intro _ A s env φ σ ρ Q E R so re S ev
  unfold constOf at hi
  split at hi
  · rename_i q
    cases hi
    obtain ⟨t, ht⟩ := W.edge
    rw [beq_iff_eq.mp q] at hx ⊢
    exact ld_glob re S so hx ht (GotQ.here S (.int _ _) ev) (by decide +kernel)
  · split at hi
    · rename_i q
      cases hi
      obtain ⟨t, ht⟩ := W.longest
      rw [beq_iff_eq.mp q] at hx ⊢
      exact ld_glob re S so hx ht (GotQ.here S (.int _ _) ev) (by decide +kernel)
    · cases hi

omit [Hid] in
theorem OkE.pow {a b : Int} {k k' p p' pos} (h : (a = 10 ∧ b = 18) ∨ (a = 10 ∧ b = 20)) : OkE W cal N sc (.BinOp (.Constant (.int a) k p) .Pow (.Constant (.int b) k' p') pos) (.lit (.int (a ^ b.toNat))) := by
  intro _ A s env φ σ ρ Q E R so re S ev
  rw [eval_BinOp]
  refine wpAny_bind (wpAny_Constant_int (wpAny_bind (wpAny_holding (wpAny_Constant_int (wpAny_bind (wpAny_standAt (wpAny_operate' ?_)))))))
  rcases h with ⟨rfl, rfl⟩ | ⟨rfl, rfl⟩ <;> exact pow_int_small (by decide) (by decide) (by decide) (.tok S (.int _ _) ev)

theorem noE {α : Type} {m : Sem α} {P : α → Shared → Prop} (h : wpAny (model prog w) A m P No s) : wpAny (model prog w) A m P E s := wpAny_mono h (fun _ _ z => z) fun _ _ z => z.elim
omit [Hid] in
theorem OkE.bin {a b : Expr} {x y : T} {op : Operator} {o : BO} {pos} (ha : OkE W cal N sc a x) (hb : OkE W cal N sc b y) (ho : compOp op = some o) : OkE W cal N sc (.BinOp a op b pos) (.bin o x y) := by
  intro _ A s env φ σ ρ Q E R so re S ev
  obtain rfl := opOf_eq ho
  rw [eval_BinOp]
  refine wpAny_bind (wpV (ha _ _ _ _ _ _ _ _ R so re S ev) fun av s₁ φ₁ u σ₁ e1 X1 S1 D1 ev => ?_)
  refine wpAny_bind (wpAny_holding (wpV (hb _ _ _ _ _ _ _ _ R so (re.mono X1) S1 ev) fun bv s₂ φ₂ u' σ₂ e2 X2 S2 D2 ev => ?_))
  exact wpAny_bind (wpAny_standAt (wpAny_operate' (wpV' (e1.trans e2) (X1.trans X2) (noE (snd_binop S2 (D1.mono X2 Bare.nil) D2 ev R.handled)))))
omit [Hid] in
theorem OkE.repM {a b : Expr} {x y : T} {pos} (ha : OkE W cal N sc a x) (hb : OkE W cal N sc b y) : OkE W cal N sc (.BinOp a .Mult b pos) (.repM x y) := by
  intro _ A s env φ σ ρ Q E R so re S ev
  rw [eval_BinOp]
  refine wpAny_bind (wpV (ha _ _ _ _ _ _ _ _ R so re S ev) fun av s₁ φ₁ u σ₁ e1 X1 S1 D1 ev => ?_)
  refine wpAny_bind (wpAny_holding (wpV (hb _ _ _ _ _ _ _ _ R so (re.mono X1) S1 ev) fun bv s₂ φ₂ u' σ₂ e2 X2 S2 D2 ev => ?_))
  refine wpAny_bind (wpAny_standAt (wpAny_operate' (wpV' (e1.trans e2) (X1.trans X2) ?_)))
  have D1' := D1.mono X2 Bare.nil
  revert D1' D2
  exact mulW.e (K := fun v => placeW true v σ₂ Q) (R := fun x y => Den _ _ bv y → Den _ _ av x → _) ev (fun _ _ _ q => (q : False).elim) fun xs n h0 h1 h2 q D2 D1 => snd_rep S2 D1 D2 h0 h1 h2 q
omit [Hid] in
theorem OkE.neg {a : Expr} {x : T} {pos} (ha : OkE W cal N sc a x) : OkE W cal N sc (.UnaryOp .USub a pos) (.neg x) := by
  intro _ A s env φ σ ρ Q E R so re S ev
  refine UnaryOp_ (wpV (ha _ _ _ _ _ _ _ _ R so re S ev) fun av s₁ φ₁ u σ₁ e1 X1 S1 D1 ev => ?_)
  revert D1
  exact intW.e (P := fun x => Den _ _ av x → _) ev fun n q D1 => D1.intE fun t => P.neg_int (.mk φ₁ _ σ₁ e1 X1 S1 (.int _ _) q)
omit [Hid] in
theorem OkE.not {a : Expr} {x : T} {pos} (ha : OkE W cal N sc a x) : OkE W cal N sc (.UnaryOp .Not a pos) (.not x) := by
  intro _ A s env φ σ ρ Q E R so re S ev
  exact UnaryOp_ (wpV (ha _ _ _ _ _ _ _ _ R so re S ev) fun av s₁ φ₁ u σ₁ e1 X1 S1 D1 ev => not_of (toB D1 ev fun b q => .mk φ₁ _ σ₁ e1 X1 S1 (.bool _) q))
omit [Hid] in
theorem OkB.not {a : Expr} {x : T} {pos} (ha : OkB W cal N sc a x) : OkB W cal N sc (.UnaryOp .Not a pos) (.not x) := by
  intro _ A s env φ σ ρ K E R so re S ev
  exact isTrue_not (wpB (ha _ _ _ _ _ _ _ _ R so re S ev) fun b s₁ φ₁ σ₁ e1 X1 S1 q => .mk φ₁ σ₁ e1 X1 S1 q)

omit [Hid] in
theorem OkE.and {a : Expr} {rest : List Expr} {e : Expr} {x y : T} {pos} (ha : OkE W cal N sc a x) (hb : OkE W cal N sc (.BoolOp .And (e :: rest) pos) y) : OkE W cal N sc (.BoolOp .And (a :: e :: rest) pos) (.and x y) := by
  intro _ A s env φ σ ρ Q E R so re S ev
  refine BoolOp_and (wpV (ha _ _ _ _ _ _ _ _ R so re S ev) fun av s₁ φ₁ u σ₁ e1 X1 S1 D1 ev => ?_)
  revert D1
  refine boolW.e (P := fun x => Den _ _ av x → _) ev fun b ev D1 => D1.boolE (wpAny_truthy_bool ?_)
  cases b with
  | false => exact .mk φ₁ _ σ₁ e1 X1 S1 (.bool _) ev
  | true =>
    exact wpV (hb _ _ _ _ _ _ _ _ R so (re.mono X1) S1 ev) fun bv s₂ φ₂ v σ₂ e2 X2 S2 D2 ev => by
      revert D2
      exact boolW.e (P := fun x => Den _ _ bv x → _) ev fun b ev D2 => .mk φ₂ _ σ₂ (e1.trans e2) (X1.trans X2) S2 D2 ev
omit [Hid] in
theorem OkE.or {a : Expr} {rest : List Expr} {e : Expr} {x y : T} {pos} (ha : OkE W cal N sc a x) (hb : OkE W cal N sc (.BoolOp .Or (e :: rest) pos) y) : OkE W cal N sc (.BoolOp .Or (a :: e :: rest) pos) (.or x y) := by
  intro _ A s env φ σ ρ Q E R so re S ev
  refine BoolOp_or (wpV (ha _ _ _ _ _ _ _ _ R so re S ev) fun av s₁ φ₁ u σ₁ e1 X1 S1 D1 ev => ?_)
  revert D1
  refine boolW.e (P := fun x => Den _ _ av x → _) ev fun b ev D1 => D1.boolE (wpAny_truthy_bool ?_)
  cases b with
  | true => exact .mk φ₁ _ σ₁ e1 X1 S1 (.bool _) ev
  | false =>
    exact wpV (hb _ _ _ _ _ _ _ _ R so (re.mono X1) S1 ev) fun bv s₂ φ₂ v σ₂ e2 X2 S2 D2 ev => by
      revert D2
      exact boolW.e (P := fun x => Den _ _ bv x → _) ev fun b ev D2 => .mk φ₂ _ σ₂ (e1.trans e2) (X1.trans X2) S2 D2 ev
omit [Hid] in
theorem OkE.one {op : BoolOp} {a : Expr} {x : T} {pos} (ha : OkE W cal N sc a x) : OkE W cal N sc (.BoolOp op [a] pos) x := by
  intro _ A s env φ σ ρ Q E R so re S ev
  exact BoolOp_one (ha _ _ _ _ _ _ _ _ R so re S ev)
omit [Hid] in
theorem OkB.and {a : Expr} {rest : List Expr} {x y : T} {pos} (ha : OkB W cal N sc a x) (hb : OkB W cal N sc (.BoolOp .And rest pos) y) : OkB W cal N sc (.BoolOp .And (a :: rest) pos) (.and x y) := by
  intro _ A s env φ σ ρ K E R so re S ev
  refine isTrue_and (wpB (ha _ _ _ _ _ _ _ _ R so re S ev) fun b s₁ φ₁ σ₁ e1 X1 S1 ev => ?_)
  cases b with
  | false => exact .mk φ₁ σ₁ e1 X1 S1 ev
  | true => exact wpB' e1 X1 (hb _ _ _ _ _ _ _ _ R so (re.mono X1) S1 ev)
omit [Hid] in
theorem OkB.or {a : Expr} {rest : List Expr} {x y : T} {pos} (ha : OkB W cal N sc a x) (hb : OkB W cal N sc (.BoolOp .Or rest pos) y) : OkB W cal N sc (.BoolOp .Or (a :: rest) pos) (.or x y) := by
  intro _ A s env φ σ ρ K E R so re S ev
  refine isTrue_or (wpB (ha _ _ _ _ _ _ _ _ R so re S ev) fun b s₁ φ₁ σ₁ e1 X1 S1 ev => ?_)
  cases b with
  | true => exact .mk φ₁ σ₁ e1 X1 S1 ev
  | false => exact wpB' e1 X1 (hb _ _ _ _ _ _ _ _ R so (re.mono X1) S1 ev)
omit [Hid] in
theorem OkB.oneA {a : Expr} {x : T} {pos} (ha : OkB W cal N sc a x) : OkB W cal N sc (.BoolOp .And [a] pos) x := by
  intro _ A s env φ σ ρ K E R so re S ev
  refine isTrue_and (wpB (ha _ _ _ _ _ _ _ _ R so re S ev) fun b s₁ φ₁ σ₁ e1 X1 S1 ev => ?_)
  cases b with
  | false => exact .mk φ₁ σ₁ e1 X1 S1 ev
  | true => exact isTrue_and_nil (.mk φ₁ σ₁ e1 X1 S1 ev)
omit [Hid] in
theorem OkB.oneO {a : Expr} {x : T} {pos} (ha : OkB W cal N sc a x) : OkB W cal N sc (.BoolOp .Or [a] pos) x := by
  intro _ A s env φ σ ρ K E R so re S ev
  refine isTrue_or (wpB (ha _ _ _ _ _ _ _ _ R so re S ev) fun b s₁ φ₁ σ₁ e1 X1 S1 ev => ?_)
  cases b with
  | true => exact .mk φ₁ σ₁ e1 X1 S1 ev
  | false => exact isTrue_or_nil (.mk φ₁ σ₁ e1 X1 S1 ev)

omit [Hid] in
theorem OkE.isNone {a : Expr} {op : CmpOp} {p : Bool} {x : T} {k kp pos} (hop : (op = .Is ∧ p = true) ∨ (op = .IsNot ∧ p = false)) (ha : OkE W cal N sc a x) : OkE W cal N sc (.Compare a [op] [.Constant .none k kp] pos) (.isNone x p) := by
  intro _ A s env φ σ ρ Q E R so re S ev
  rw [eval_Compare1, markedBehindIn_of_false (by rcases hop with ⟨rfl, _⟩ | ⟨rfl, _⟩ <;> rfl)]
  refine wpAny_bind (wpV (ha _ _ _ _ _ _ _ _ R so re S ev) fun av s₁ φ₁ u σ₁ e1 X1 S1 D1 ev => ?_)
  exact wpAny_bind (wpAny_holding (Constant_none (wpAny_bind (wpAny_standAt (wpAny_operate' (wpV' e1 X1 (snd_isNone hop S1 D1 ev)))))))
theorem nilB {v : V} {p : Bool} {K : Bool → Prop} (h : nilW v (K p) (K !p)) : nilW v (boolW (.bool p) K) (boolW (.bool !p) K) := h
omit [Hid] in
theorem OkB.isNone {a : Expr} {op : CmpOp} {p : Bool} {x : T} {k kp pos} (hop : (op = .Is ∧ p = true) ∨ (op = .IsNot ∧ p = false)) (ha : OkE W cal N sc a x) : OkB W cal N sc (.Compare a [op] [.Constant .none k kp] pos) (.isNone x p) := by
  intro _ A s env φ σ ρ K E R so re S ev
  rw [isTrue_Compare1, markedBehindIn_of_false (by rcases hop with ⟨rfl, _⟩ | ⟨rfl, _⟩ <;> rfl)]
  refine wpAny_bind (wpV (ha _ _ _ _ _ _ _ _ R so re S ev) fun av s₁ φ₁ u σ₁ e1 X1 S1 D1 ev => ?_)
  refine wpAny_bind (wpAny_holding (Constant_none (wpAny_bind (wpAny_standAt (wpAny_bind (wpAny_operate' ?_))))))
  exact wpV (snd_isNone (Q := fun v σ' => boolW v fun b => K b σ') hop S1 D1 ev) fun c s₂ φ₂ v σ₂ e2 X2 S2 D2 ev => wpAny_holding (toB D2 ev fun b q => .mk φ₂ σ₂ (e1.trans e2) (X1.trans X2) S2 q)
theorem lastMarks_one {op : CmpOp} {b : Expr} (h : lastMarks [op] [b] = false) : behindInMarks op b = false := by simpa [lastMarks] using h
omit [Hid] in
theorem OkE.cmp {a b : Expr} {x y : T} {op : CmpOp} {o : CO} {pos} (hm : lastMarks [op] [b] = false) (ha : OkE W cal N sc a x) (hb : OkE W cal N sc b y) (ho : compCmp op = some o) : OkE W cal N sc (.Compare a [op] [b] pos) (.cmp o x y) := by
  intro _ A s env φ σ ρ Q E R so re S ev
  obtain rfl := cmpOf_eq ho
  rw [eval_Compare1, markedBehindIn_of_false (lastMarks_one hm)]
  refine wpAny_bind (wpV (ha _ _ _ _ _ _ _ _ R so re S ev) fun av s₁ φ₁ u σ₁ e1 X1 S1 D1 ev => ?_)
  refine wpAny_bind (wpAny_holding (wpV (hb _ _ _ _ _ _ _ _ R so (re.mono X1) S1 ev) fun bv s₂ φ₂ u' σ₂ e2 X2 S2 D2 ev => ?_))
  exact wpAny_bind (wpAny_standAt (wpAny_operate' (wpV' (e1.trans e2) (X1.trans X2) (snd_cmp R S2 (D1.mono X2 Bare.nil) D2 ev))))
omit [Hid] in
theorem OkB.cmp {a b : Expr} {x y : T} {op : CmpOp} {o : CO} {pos} (hm : lastMarks [op] [b] = false) (ha : OkE W cal N sc a x) (hb : OkE W cal N sc b y) (ho : compCmp op = some o) : OkB W cal N sc (.Compare a [op] [b] pos) (.cmp o x y) := by
  intro _ A s env φ σ ρ K E R so re S ev
  obtain rfl := cmpOf_eq ho
  rw [isTrue_Compare1, markedBehindIn_of_false (lastMarks_one hm)]
  refine wpAny_bind (wpV (ha _ _ _ _ _ _ _ _ R so re S ev) fun av s₁ φ₁ u σ₁ e1 X1 S1 D1 ev => ?_)
  refine wpAny_bind (wpAny_holding (wpV (hb _ _ _ _ _ _ _ _ R so (re.mono X1) S1 ev) fun bv s₂ φ₂ u' σ₂ e2 X2 S2 D2 ev => ?_))
  refine wpAny_bind (wpAny_standAt (wpAny_bind (wpAny_operate' ?_)))
  exact wpV (snd_cmp (Q := fun v σ' => boolW v fun b => K b σ') R S2 (D1.mono X2 Bare.nil) D2 ev) fun c s₃ φ₃ v σ₃ e3 X3 S3 D3 ev => wpAny_holding (toB D3 ev fun b q => .mk φ₃ σ₃ ((e1.trans e2).trans e3) ((X1.trans X2).trans X3) S3 q)
theorem cmp_bool {n : Nat} (R : Room A n) {o : CO} {x y : V} {a b : Value} {K : Bool → St → Prop} {P : Value → Shared → Prop} (S : SimW W s.heap φ σ) (dx : Den s.heap φ a x) (dy : Den s.heap φ b y) (ev : cmpW σ o x y fun r => K r σ)
    (k : ∀ c b s₁ φ₁ σ₁, Same s s₁ → Ext [] s.heap φ s₁.heap φ₁ → SimW W s₁.heap φ₁ σ₁ → c = .bool b → K b σ₁ → P c s₁) : wpAny (model prog w) A (compareOp (cmpOf o) a b) P E s :=
  wpV (snd_cmp (Q := fun v σ' => boolW v fun b => K b σ') R S dx dy ev) fun c s₁ φ₁ v σ₁ e X S1 D ev => by
    revert D
    exact boolW.e (P := fun x => Den _ _ c x → _) ev fun b q D => k c b s₁ φ₁ σ₁ e X S1 (D.boolE rfl) q
omit [Hid] in
theorem OkE.chain {a b c : Expr} {x y z : T} {op op' : CmpOp} {o o' : CO} {pos} (hm : lastMarks [op, op'] [b, c] = false) (ha : OkE W cal N sc a x) (hb : OkE W cal N sc b y) (hc : OkE W cal N sc c z) (ho : compCmp op = some o) (ho' : compCmp op' = some o') :
    OkE W cal N sc (.Compare a [op, op'] [b, c] pos) (.chain o o' x y z) := by
  intro _ A s env φ σ ρ Q E R so re S ev
  obtain rfl := cmpOf_eq ho
  obtain rfl := cmpOf_eq ho'
  refine Compare_chain (wpV (ha _ _ _ _ _ _ _ _ R so re S ev) fun av s₁ φ₁ u σ₁ e1 X1 S1 D1 ev => ?_) hm
  refine chain_link (wpV (hb _ _ _ _ _ _ _ _ R so (re.mono X1) S1 ev) fun bv s₂ φ₂ u' σ₂ e2 X2 S2 D2 ev => ?_)
  refine cmp_bool (K := fun d σ' => brW d (Ev z cal ρ σ' fun z σ₃ => cmpW σ₃ o' u' z fun v => Q (.bool v) σ₃) (Q (.bool false) σ')) R S2 (D1.mono X2 Bare.nil) D2 ev fun cv q s₃ φ₃ σ₃ e3 X3 S3 hc' ev => ?_
  subst hc'
  refine wpAny_truthy_bool ?_
  have e := (e1.trans e2).trans e3
  have X := (X1.trans X2).trans X3
  cases q with
  | false => exact .mk φ₃ _ σ₃ e X S3 (.bool _) ev
  | true =>
    exact chain_last (wpV (hc _ _ _ _ _ _ _ _ R so (re.mono X) S3 ev) fun dv s₄ φ₄ r σ₄ e4 X4 S4 D4 ev => wpV' (e.trans e4) (X.trans X4) (snd_cmp R S4 (D2.mono (X3.trans X4) Bare.nil) D4 ev))
omit [Hid] in
theorem OkB.chain {a b c : Expr} {x y z : T} {op op' : CmpOp} {o o' : CO} {pos} (hm : lastMarks [op, op'] [b, c] = false) (ha : OkE W cal N sc a x) (hb : OkE W cal N sc b y) (hc : OkE W cal N sc c z) (ho : compCmp op = some o) (ho' : compCmp op' = some o') :
    OkB W cal N sc (.Compare a [op, op'] [b, c] pos) (.chain o o' x y z) := by
  intro _ A s env φ σ ρ K E R so re S ev
  obtain rfl := cmpOf_eq ho
  obtain rfl := cmpOf_eq ho'
  refine isTrue_chain (wpV (ha _ _ _ _ _ _ _ _ R so re S ev) fun av s₁ φ₁ u σ₁ e1 X1 S1 D1 ev => ?_) hm
  refine test_link (wpV (hb _ _ _ _ _ _ _ _ R so (re.mono X1) S1 ev) fun bv s₂ φ₂ u' σ₂ e2 X2 S2 D2 ev => ?_)
  refine cmp_bool (K := fun d σ' => brW d (Ev z cal ρ σ' fun z σ₃ => cmpW σ₃ o' u' z fun v => boolW (.bool v) fun b => K b σ₃) (K false σ')) R S2 (D1.mono X2 Bare.nil) D2 ev fun cv q s₃ φ₃ σ₃ e3 X3 S3 hc' ev => ?_
  subst hc'
  refine wpAny_truthy_bool ?_
  have e := (e1.trans e2).trans e3
  have X := (X1.trans X2).trans X3
  cases q with
  | false => exact .mk φ₃ σ₃ e X S3 ev
  | true =>
    exact test_last (wpV (hc _ _ _ _ _ _ _ _ R so (re.mono X) S3 ev) fun dv s₄ φ₄ r σ₄ e4 X4 S4 D4 ev =>
      wpV (snd_cmp (Q := fun v σ' => boolW v fun b => K b σ') R S4 (D2.mono (X3.trans X4) Bare.nil) D4 ev) fun c s₅ φ₅ v σ₅ e5 X5 S5 D5 ev => toB D5 ev fun b q => .mk φ₅ σ₅ ((e.trans e4).trans e5) ((X.trans X4).trans X5) S5 q)

omit [Hid] in
theorem OkE.ite {c t e : Expr} {x y z : T} {pos} (hc : OkB W cal N sc c x) (ht : OkE W cal N sc t y) (he : OkE W cal N sc e z) : OkE W cal N sc (.IfExp c t e pos) (.ite x y z) := by
  intro _ A s env φ σ ρ Q E R so re S ev
  refine IfExp_ (wpB (hc _ _ _ _ _ _ _ _ R so re S ev) fun b s₁ φ₁ σ₁ e1 X1 S1 ev => ?_)
  cases b with
  | true => exact wpV' e1 X1 (ht _ _ _ _ _ _ _ _ R so (re.mono X1) S1 ev)
  | false => exact wpV' e1 X1 (he _ _ _ _ _ _ _ _ R so (re.mono X1) S1 ev)
omit [Hid] in
theorem OkB.ite {c t e : Expr} {x y z : T} {pos} (hc : OkB W cal N sc c x) (ht : OkB W cal N sc t y) (he : OkB W cal N sc e z) : OkB W cal N sc (.IfExp c t e pos) (.ite x y z) := by
  intro _ A s env φ σ ρ K E R so re S ev
  refine isTrue_IfExp (wpB (hc _ _ _ _ _ _ _ _ R so re S ev) fun b s₁ φ₁ σ₁ e1 X1 S1 ev => ?_)
  cases b with
  | true => exact wpB' e1 X1 (ht _ _ _ _ _ _ _ _ R so (re.mono X1) S1 ev)
  | false => exact wpB' e1 X1 (he _ _ _ _ _ _ _ _ R so (re.mono X1) S1 ev)
end
end Mine
end

section
set_option autoImplicit false
set_option maxRecDepth 100000
namespace Mine
open PySem PySem.W PyProof.Rows

section
variable [Hid]
variable {prog : Program} {w : World} {W : Wd prog w} {cal : PC} {N : Nat} {sc : Scope}
variable {A : Around} {s s₁ : Shared} {φ φ₁ : Phi} {σ σ' : St} {E : Value → Shared → Prop} {Q : V → St → Prop}

omit [Hid] in
theorem OkL.nil : OkL W cal N sc [] .nil := by
  refine ⟨fun _ => rfl, ?_⟩
  intro _ A s env φ σ ρ Q E pos R so re S ev
  exact spliced_none (.mk φ _ σ (Same.refl _) (Ext.refl _ _ _) S .nil ev)
omit [Hid] in
theorem OkL.cons {e : Expr} {r : List Expr} {t : T} {ts : Ts} (he : ∀ env, starEach (e :: r) env = (false, eval e env) :: starEach r env) (h : OkE W cal N sc e t) (hr : OkL W cal N sc r ts) : OkL W cal N sc (e :: r) (.cons t ts) := by
  refine ⟨fun env => by rw [he env, List.all_cons, hr.1 env]; rfl, ?_⟩
  intro _ A s env φ σ ρ Q E pos R so re S ev
  refine spliced_more (wpV (h _ _ _ _ _ _ _ _ R so re S ev) fun av s₁ φ₁ u σ₁ e1 X1 S1 D1 ev => ?_) (he env)
  exact wpL (hr.2 _ _ _ _ _ _ _ _ _ R so (re.mono X1) S1 ev) fun vals s₂ φ₂ us σ₂ e2 X2 S2 D2 ev => .mk φ₂ _ σ₂ (e1.trans e2) (X1.trans X2) S2 (.cons (D1.mono X2 Bare.nil) D2) ev

theorem evalArgs_l {M : Model} {f : Value} {args : List (Bool × Sem Value)} {Q : Args → Shared → Prop} (ha : args.all (fun x => !x.1) = true) (h : wpAny M A (spliced args) (fun vs s' => Q ⟨vs, []⟩ s') E s) : wpAny M A (evalArgs f true args []) Q E s := by
  cases args with
  | nil =>
    unfold evalArgs
    show wpAny M A (spliced [] >>= _) Q E s
    refine wpAny_bind (wpAny_mono h (fun vs s' h' => ?_) fun _ _ x => x)
    exact wpAny_holding (wpAny_bind (wpAny_pure (wpAny_bind (wpAny_pure (wpAny_pure h')))))
  | cons x r =>
    obtain ⟨b, t⟩ := x
    cases b with
    | true => simp at ha
    | false => exact PySem.Calls.evalArgs_plain h
theorem backTo_all {pos : Pos} {l : List (Bool × Sem Value)} (h : l.all (fun x => !x.1) = true) : (backTo pos l).all (fun x => !x.1) = true := by
  induction l with
  | nil => rfl
  | cons x r ih =>
    simp only [List.all_cons, Bool.and_eq_true] at h
    simp only [backTo, List.map_cons, List.all_cons, Bool.and_eq_true]
    exact ⟨h.1, ih h.2⟩
theorem any_of_all {l : List (Bool × Sem Value)} (h : l.all (fun x => !x.1) = true) : l.any (·.1) = false := by
  induction l with
  | nil => rfl
  | cons x r ih =>
    simp only [List.all_cons, Bool.and_eq_true] at h
    rw [List.any_cons, ih h.2]
    have := h.1
    cases hx : x.1 <;> simp_all

noncomputable def Keeper' (W : Wd prog w) (f : Value) : Prop := ∀ h, W.K.In h → ∃ k, (k = Keeper.frame ∨ k = Keeper.machine ∨ k = Keeper.boundFrame) ∧ Looks (model prog w) h (keeperOf f) k
theorem Keeper'.builtin {id : String} : Keeper' W (.builtin id) := fun h X => ⟨.machine, .inr (.inl rfl), Looks.of_pure rfl⟩
theorem Keeper'.type {id : String} : Keeper' W (.type id) := fun h X => ⟨.machine, .inr (.inl rfl), Looks.of_pure rfl⟩
theorem Keeper'.k {f : Value} (hk : keepIn W.K f = true) : Keeper' W f := fun h X => keeps_K hk h X

theorem callW {f : Value} {first : List Value} {es : List Expr} {ts : Ts} {env : Env} {ρ : Rho} {Q : List V → St → Prop} {pos : Pos} {P : Value → Shared → Prop} (hL : OkL W cal N sc es ts) (hk : Keeper' W f) (R : Room A N) (so : ScopeOk sc env) (re : EnvRel W env s.heap φ ρ) (S : SimW W s.heap φ σ) (ev : Evs ts cal ρ σ Q)
    (k : ∀ vals s₁ φ₁ vs σ₁, Same s s₁ → Ext [] s.heap φ s₁.heap φ₁ → SimW W s₁.heap φ₁ σ₁ → Dens s₁.heap φ₁ vals vs → Q vs σ₁ → wpAny (model prog w) A (call f (first ++ vals)) P E s₁) :
    wpAny (model prog w) A (callWith pos f first (backTo pos (starEach es env)) []) P E s := by
  have ha := backTo_all (pos := pos) (hL.1 env)
  refine callWith_of (P := W.K.In) (by rw [any_of_all ha]; rfl) hk (evalArgs_l ha (wpL (hL.2 _ _ _ _ _ _ _ _ _ R so re S ev) fun vals s₁ φ₁ vs σ₁ e1 X1 S1 D1 ev => ⟨Wd.kAt S1, ?_⟩))
  exact k vals s₁ φ₁ vs σ₁ e1 X1 S1 D1 ev

theorem attributeBase_plain {o : Expr} {a : Str} {env : Env} {whole : Sem Value} (h : plainBase o = true) : attributeBase o a env whole = whole := by
  cases o <;> first | rfl | cases h

theorem methCall {M : Model} {o : Expr} {name : Str} {apos pos : Pos} {es : List Expr} {env : Env} {Q : Value → Shared → Prop} (hm : methOk o apos pos es.length = true) (hst : (starEach es env).all (fun x => !x.1) = true)
    (h : wpAny M A (eval o env) (fun ov s₁ => ∀ pl, wpAny M A (getMethod ov name pl) (fun fx s₂ => wpAny M A (callWith pos fx.1 fx.2 (backTo pos (starEach es env)) []) Q E s₂) E s₁) E s) :
    wpAny M A (eval (.Call (.Attribute o name apos) es [] pos) env) Q E s := by
  simp only [methOk, Bool.and_eq_true, decide_eq_true_eq] at hm
  obtain ⟨⟨h1, h2⟩, h3⟩ := hm
  show wpAny M A (do
    let ov ← attributeBase o name env (eval o env)
    standAt apos.atName
    methodCall o name apos pos env ov (es.length + 0) (backTo pos (starEach es env)) []) Q E s
  rw [attributeBase_plain h1]
  refine wpAny_bind (wpAny_mono h (fun ov s₁ h₁ => wpAny_bind (wpAny_standAt ?_)) fun _ _ x => x)
  have hf : methodCallForm (es.length + 0) (backTo pos (starEach es env)) [] = true := by
    unfold methodCallForm
    rw [backTo_all hst]
    simp
    omega
  unfold methodCall
  rw [hf]
  refine wpAny_bind (wpAny_holding ?_)
  refine wpAny_mono (h₁ _) (fun fx s₂ h₂ => ?_) fun _ _ x => x
  have hp : methodCallPos true o env apos pos = pure pos := by
    unfold methodCallPos
    rw [h2]; rfl
  dsimp only
  rw [hp]
  exact wpAny_bind (wpAny_pure h₂)

omit [Hid] in
theorem OkE.seqT {es : List Expr} {ts : Ts} {tup mt : Bool} {pos} {kk} {e : Expr} (he : e = if tup then .Tuple es kk pos else .List es pos) (hL : OkL W cal N sc es ts) : OkE W cal N sc e (.seq tup mt ts) := by
  intro _ A s env φ σ ρ Q E R so re S ev
  cases tup with
  | false =>
    subst he
    refine wpAny_List_spliced (wpL (hL.2 _ _ _ _ _ _ _ _ _ R so re S ev) fun vals s₁ φ₁ vs σ₁ e1 X1 S1 D1 ev => ?_)
    have hz : vals.length ≤ sizeLine := by rw [D1.length]; exact LIM_le ev.1
    obtain ⟨φ', v, σ', hs, X, S', D, q⟩ := placed (s' := { s₁ with heap := s₁.heap.push { cls := .type "list", data := .seq vals.toArray } }) S1 ⟨rfl, rfl, rfl⟩ (keep_push { cls := .type "list", data := .seq vals.toArray }) (dead _) push_list (by rw [List.size_toArray]; exact hz) (by simpa using D1) ev.2
    exact ⟨hz, .mk φ' v σ' (e1.trans hs) (X1.trans X) S' D q⟩
  | true =>
    subst he
    refine wpAny_Tuple_spliced (wpL (hL.2 _ _ _ _ _ _ _ _ _ R so re S ev) fun vals s₁ φ₁ vs σ₁ e1 X1 S1 D1 ev => ?_)
    have hz : vals.length ≤ sizeLine := by rw [D1.length]; exact LIM_le ev.1
    have hk := keep_push (h := s₁.heap) { cls := .type "tuple", data := .seq vals.toArray }
    exact ⟨hz, .mk φ₁ _ σ₁ (e1.trans ⟨rfl, rfl, rfl⟩) (X1.trans (Ext.all hk)) (S1.keep hk) (.tup ⟨_, Heap.get?_push_size _ rfl, rfl, 0, rfl⟩ (off_dead S1 (dead _)) (by rw [List.size_toArray]; exact hz) (by simpa using D1.mono (Ext.all (own := []) hk) Bare.nil)) (place_val (fun _ h => h) ev.2)⟩
omit [Hid] in
theorem OkE.emptyDict {pos} : OkE W cal N sc (.Dict [] [] pos) .emptyDict := by
  intro _ A s env φ σ ρ Q E R so re S ev
  refine wpAny_Dict_empty ?_
  have hk := keep_push (h := s.heap) { cls := .type "dict", data := .dict #[] }
  have D := dead s.heap
  have hnew := Heap.get?_push_size s.heap (o := { cls := .type "dict", data := .dict #[] }) rfl
  obtain ⟨S', X⟩ := S.push (own := []) (a := s.heap.objs.size) (o := .dict []) D hk ⟨S.big, ⟨_, _, _, hnew, rfl, rfl⟩,
    fun _ => ⟨[], ⟨_, #[], 0, hnew, ⟨rfl, rfl, rfl⟩, rfl, by intro e he; simp at he, .nil, by simp⟩, .nil⟩,
    fun _ => ⟨[], ⟨_, #[], 0, hnew, ⟨rfl, rfl, rfl⟩, rfl, rfl, by simp, by simp⟩, .nil⟩⟩
  exact .mk _ _ _ ⟨rfl, rfl, rfl⟩ X S' (.ref (by rw [← S.len, List.getElem?_append_right (Nat.le_refl _), Nat.sub_self]; rfl)) ev

omit [Hid] in
theorem OkE.attr {o : Expr} {x : T} {a : Str} {k : Nat} {pos} (hb : plainBase o = true) (ho : OkE W cal N sc o x) (hk : attrCode a = some k) : OkE W cal N sc (.Attribute o a pos) (.attr x k) := by
  intro _ A s env φ σ ρ Q E R so re S ev
  exact Attribute_any_ (wpV (ho _ _ _ _ _ _ _ _ R so re S ev) fun av s₁ φ₁ u σ₁ e1 X1 S1 D1 ev => wpV' e1 X1 (snd_attr hk S1 D1 ev)) (by
    show (do
      let o' ← attributeBase o a env (eval o env)
      standAt pos.atName
      let r ← holding [o'] (getAttr o' a true)
      letTemporaryGo o o' r
      pure r) = _
    rw [attributeBase_plain hb])

noncomputable def Sub (s : Shared) (a : Value) : Prop := ∃ T id, s.TypeIs a T ∧ typeLookup (.type T) "__getitem__" = pure (some (.builtin id))
theorem Sub.list {a : Addr} {items : Array Value} (l : s.heap.IsList a items) : Sub s (.ref a) := ⟨"list", _, l.typeIs, PySem.slot_list_getitem.lookup⟩
theorem Sub.tup {a : Addr} {items : Array Value} (l : s.heap.IsTuple a items) : Sub s (.ref a) := ⟨"tuple", _, l.typeIs, PySem.F.slot_tuple_getitem.lookup⟩
theorem index_type {a : Value} {x y : V} (S : SimW W s.heap φ σ) (D : Den s.heap φ a x) {K : V → Prop} (h : indexW σ x y K) : Sub s a := by
  unfold indexW at h
  cases x with
  | seq t xs =>
    cases t with
    | false => exact D.listE fun r items l _ _ _ => .list l
    | true => exact D.tupE fun r items l _ _ _ => .tup l
  | ref r =>
    refine D.refE fun a hr => ?_
    rcases h with ⟨xs, q, h⟩ | ⟨es, q, h⟩
    · obtain ⟨items, l, _⟩ := S.at hr q
      exact .list l.isList
    · obtain ⟨_, ⟨o, l, n, e, c, d⟩, _⟩ := S.at hr q
      exact ⟨"dict", _, ⟨o, e, c⟩, PySem.slot_dict_getitem.lookup⟩
  | _ => exact h.elim

theorem wpAny_gi {a : Value} {T id : String} {Q : Bool → Shared → Prop} (hT : s.TypeIs a T) (hl : typeLookup (.type T) "__getitem__" = pure (some (.builtin id))) (k : Q false s) : wpAny (model prog w) A (getitemInPython a) Q E s := by
  rw [getitemInPython_of_ne hT.not_modules]
  refine wpAny_bind (wpAny_specialOf hT hl ?_)
  first | exact wpAny_pure k | exact k

omit [Hid] in
theorem OkE.idx {a b : Expr} {x y : T} {pos} (hsub : ∀ o i, subscripted b false o i = operate [o, i] (getItem o i)) (ha : OkE W cal N sc a x) (hb : OkE W cal N sc b y) : OkE W cal N sc (.Subscript a b pos) (.idx x y) := by
  intro _ A s env φ σ ρ Q E R so re S ev
  refine Subscript_ (wpV (ha _ _ _ _ _ _ _ _ R so re S ev) fun av s₁ φ₁ u σ₁ e1 X1 S1 D1 ev => ?_)
  refine wpV (hb _ _ _ _ _ _ _ _ R so (re.mono X1) S1 ev) fun bv s₂ φ₂ u' σ₂ e2 X2 S2 D2 ev => ?_
  have D1' := D1.mono X2 Bare.nil
  obtain ⟨T, id, hT, hl⟩ := index_type S2 D1' ev
  unfold subscriptTail
  refine wpAny_bind (wpAny_gi hT hl (wpAny_bind ?_))
  rw [hsub]
  exact wpAny_operate' (wpV (snd_index (R.cline 10) S2 D1' D2 ev) fun r s₃ φ₃ v σ₃ e3 X3 S3 D3 ev => wpAny_bind (wpAny_letTemporaryGo (wpAny_pure (.mk φ₃ v σ₃ ((e1.trans e2).trans e3) ((X1.trans X2).trans X3) S3 D3 ev))))

theorem slice_type {a : Value} {x y z : V} (S : SimW W s.heap φ σ) (D : Den s.heap φ a x) {K : V → Prop} (h : sliceW σ x y z K) : Sub s a := by
  unfold sliceW at h
  cases x with
  | seq t xs =>
    cases t with
    | false => exact D.listE fun r items l _ _ _ => .list l
    | true => exact D.tupE fun r items l _ _ _ => .tup l
  | ref r =>
    refine D.refE fun a hr => ?_
    obtain ⟨xs, q, _⟩ := h
    obtain ⟨items, l, _⟩ := S.at hr q
    exact .list l.isList
  | _ => exact h.elim

omit [Hid] in
theorem OkO.none : OkO W cal N sc none (.lit .nul) := by
  intro _ A s env φ σ ρ Q E R so re S ev
  exact wpAny_pure (.here S .nul ev)
omit [Hid] in
theorem OkO.some {e : Expr} {t : T} (h : OkE W cal N sc e t) : OkO W cal N sc (some e) t := h

omit [Hid] in
theorem OkE.slice {a : Expr} {lo hi : Option Expr} {x y z : T} {p pos} (ha : OkE W cal N sc a x) (hlo : OkO W cal N sc lo y) (hhi : OkO W cal N sc hi z) : OkE W cal N sc (.Subscript a (.Slice lo hi none p) pos) (.slice x y z) := by
  intro _ A s env φ σ ρ Q E R so re S ev
  refine Subscript_ (wpV (ha _ _ _ _ _ _ _ _ R so re S ev) fun av s₁ φ₁ u σ₁ e1 X1 S1 D1 ev => ?_)
  refine wpAny_Slice (wpV (hlo _ _ _ _ _ _ _ _ R so (re.mono X1) S1 ev) fun lv s₂ φ₂ u' σ₂ e2 X2 S2 D2 ev => ?_)
  refine wpV (hhi _ _ _ _ _ _ _ _ R so ((re.mono X1).mono X2) S2 ev) fun hv s₃ φ₃ u'' σ₃ e3 X3 S3 D3 ev => wpAny_pure ?_
  have D1' := D1.mono (X2.trans X3) Bare.nil
  have hk := keep_push (h := s₃.heap) { cls := .type "slice", data := .fields #[lv, hv, .none] }
  obtain ⟨T, id, hT, hl⟩ := slice_type (s := { s₃ with heap := s₃.heap.push { cls := .type "slice", data := .fields #[lv, hv, .none] } }) (S3.keep hk) (D1'.mono (Ext.all (own := []) hk) Bare.nil) ev
  unfold subscriptTail
  refine wpAny_bind (wpAny_gi hT hl (wpAny_bind ?_))
  show wpAny _ _ (operate _ (getItem av _)) _ _ _
  exact wpAny_operate' (wpAny_mono (snd_slice S3 D1' (D2.mono X3 Bare.nil) D3 ev) (fun r s₄ g => g.rec fun φ₄ v σ₄ e4 X4 S4 D4 q => wpAny_bind (wpAny_letTemporaryGo (wpAny_pure (.mk φ₄ v σ₄ (((e1.trans e2).trans e3).trans e4) (((X1.trans X2).trans X3).trans X4) S4 D4 q)))) fun _ _ z => z)
end
end Mine
end

section
set_option autoImplicit false
set_option maxRecDepth 100000
namespace Mine
open PySem PySem.W PyProof.Rows

noncomputable def freeNames : List Str := ["len", "range", "list", "tuple", "max", "min", "abs", "int", "bool", "sum", "dict", "isinstance"]
theorem prims_ok : ∀ q ∈ prims, q.1 ∈ freeNames ∧ (q.1 == ("__debug__" : Str)) = false ∧ q.1 ≠ ("__name__" : Str) ∧ q.2.2 ≠ .isInt ∧ q.2.2 ≠ .isBool ∧ q.2.2 ≠ .isSeq := by decide +kernel
theorem boot_prims : ∀ q ∈ prims, bootBuiltins q.1 = some (primVal q.2.2) := by
  intro q hq
  simp only [prims, List.mem_cons, List.not_mem_nil, or_false] at hq
  rcases hq with rfl | rfl | rfl | rfl | rfl | rfl | rfl | rfl | rfl | rfl | rfl <;> kernel_rfl
theorem boot_isinstance : bootBuiltins "isinstance" = some (.builtin "isinstance") := by kernel_rfl
theorem boot_int : bootBuiltins "int" = some (.type "int") := by kernel_rfl
theorem boot_bool : bootBuiltins "bool" = some (.type "bool") := by kernel_rfl
theorem boot_tuple : bootBuiltins "tuple" = some (.type "tuple") := by kernel_rfl
theorem boot_list : bootBuiltins "list" = some (.type "list") := by kernel_rfl

section
variable [Hid]
variable {prog : Program} {w : World} {W : Wd prog w} {cal : PC} {N : Nat} {sc : Scope}
variable {A : Around} {s s₁ : Shared} {φ φ₁ : Phi} {σ σ' : St} {E : Value → Shared → Prop} {Q : V → St → Prop}

theorem ld_free {env : Env} {ρ : Rho} {x : Str} {v : Value} {pos : Pos} {Q : Value → Shared → Prop} (hx : x ∈ freeNames) (hd : (x == ("__debug__" : Str)) = false) (hn : x ≠ ("__name__" : Str)) (hb : bootBuiltins x = some v) (hg : isGlob sc x = true)
    (so : ScopeOk sc env) (re : EnvRel W env s.heap φ ρ) (S : SimW W s.heap φ σ) (k : Q v s) : wpAny (model prog w) A (eval (.Name x pos) env) Q E s :=
  ld_builtin re S so hg (W.free x hx) ((W.boot x hn).trans hb) k hd

theorem primOf_mem {f : Str} {n : Nat} {p : Prim} (h : primOf f n = some p) : ∃ m, (f, m, p) ∈ prims := by
  unfold primOf at h
  obtain ⟨⟨g, m, q⟩, h1, h2⟩ := Option.map_eq_some_iff.mp h
  have := List.find?_some h1
  simp only [Bool.and_eq_true, beq_iff_eq] at this
  obtain ⟨rfl, _⟩ := this
  simp only at h2; subst h2
  exact ⟨m, List.mem_of_find?_eq_some h1⟩

theorem primKeeper {p : Prim} : Keeper' W (primVal p) := by cases p <;> first | exact Keeper'.builtin | exact Keeper'.type

omit [Hid] in
theorem OkE.prim {f : Str} {es : List Expr} {ts : Ts} {p : Prim} {n : Nat} {mt : Bool} {fp pos} (hg : isGlob sc f = true) (hp : primOf f n = some p) (hL : OkL W cal N sc es ts) : OkE W cal N sc (.Call (.Name f fp) es [] pos) (.prim p mt ts) := by
  intro _ A s env φ σ ρ Q E R so re S ev
  obtain ⟨m, hm⟩ := primOf_mem hp
  obtain ⟨a1, a2, a3, a4⟩ := prims_ok _ hm
  refine Call_Name rfl (ld_free a1 a2 a3 (boot_prims _ hm) hg so re S ?_)
  exact callW hL primKeeper R so re S ev fun vals s₁ φ₁ vs σ₁ e1 X1 S1 D1 ev => wpV' e1 X1 (snd_prim R S1 D1 a4 ev)

omit [Hid] in
theorem OkE.call {f : Str} {es : List Expr} {ts : Ts} {k : Nat} {fp pos} (H : CalOk W N cal) (hg : isGlob sc f = true) (hf : fnCode f = some k) (hd : isDef k = true) (hdb : (f == ("__debug__" : Str)) = false) (hL : OkL W cal N sc es ts) : OkE W cal N sc (.Call (.Name f fp) es [] pos) (.call k ts) := by
  intro _ A s env φ σ ρ Q E R so re S ev
  have hx := fnCode_get hf
  have h27 : k < 27 := (List.getElem?_eq_some_iff.mp hx).1
  refine Call_Name rfl (ld_glob re S so hg (W.fn k f hd hx) ?_ hdb)
  exact callW hL (Keeper'.k (W.ok.keep k h27)) R so re S ev fun vals s₁ φ₁ vs σ₁ e1 X1 S1 D1 ev => wpV' e1 X1 (snd_call H R.toC h27 S1 D1 ev)

omit [Hid] in
theorem OkE.new {f : Str} {fp pos} (H : CalOk W N cal) (hg : isGlob sc f = true) (hf : f = ("Patterns" : Str)) : OkE W cal N sc (.Call (.Name f fp) [] [] pos) .new := by
  intro _ A s env φ σ ρ Q E R so re S ev
  subst hf
  refine Call_Name rfl (ld_glob re S so hg W.cls ?_ (by decide +kernel))
  refine callW (cal := cal) (ρ := ρ) (Q := fun vs σ₁ => vs = [] ∧ σ₁ = σ) OkL.nil (Keeper'.k W.ok.keepC) R so re S ⟨rfl, rfl⟩ fun vals s₁ φ₁ vs σ₁ e1 X1 S1 D1 h => ?_
  obtain ⟨rfl, rfl⟩ := h
  cases D1
  exact wpV' e1 X1 (snd_new H R S1 ev)

theorem isi_seq {a : Value} {x : V} {tp : Addr} (S : SimW W s.heap φ σ) (D : Den s.heap φ a x) (ev : isSeqW σ x (Q (.bool true) σ))
    (ht : s.heap.get? tp = some { cls := .type "tuple", data := .seq [Value.type "tuple", Value.type "list"].toArray }) : wpAny (model prog w) A (call (.builtin "isinstance") [a, .ref tp]) (GotQ W s φ Q) E s := by
  have lst : ∀ {t : Addr}, s.TypeIs (.ref t) "list" → Q (.bool true) σ → wpAny (model prog w) A (call (.builtin "isinstance") [.ref t, .ref tp]) (GotQ W s φ Q) E s := fun {t} hT ev =>
    IsiPair.tupleOfB (Tx := "list") (vs := [false, true]) (.cons (Answers.of_false_list (by decide +kernel) PySem.F.isi_meta_tuple PySem.F.sub_list_tuple) (.cons (Answers.of_true PySem.F.isi_meta_list PySem.F.sub_list_list) .nil)) hT ht rfl fun tk => .tok S (.bool _) ev
  cases x with
  | seq t xs =>
    cases t with
    | false => exact D.listE fun r items l _ _ _ => lst l.typeIs ev
    | true => exact D.tupE fun r items l _ _ _ => IsiPair.tupleOfB (Tx := "tuple") (vs := [true, false]) (.cons (Answers.of_true PySem.F.isi_meta_tuple PySem.F.sub_tuple_tuple) (.cons (Answers.of_false_tuple (by decide +kernel) PySem.F.isi_meta_list PySem.F.sub_tuple_list) .nil)) l.typeIs ht rfl fun tk => .tok S (.bool _) ev
  | ref r =>
    refine D.refE fun a hr => ?_
    obtain ⟨xs, q, ev⟩ := ev
    obtain ⟨items, l, _⟩ := S.at hr q
    exact lst l.isList.typeIs ev
  | _ => exact ev.elim

theorem isi_call {f : Str} {a t : Expr} {env : Env} {ρ : Rho} {x : T} {fp pos} {K : V → St → Prop} {P : Value → Shared → Prop} (hg : isGlob sc f = true) (hf : f = ("isinstance" : Str)) (so : ScopeOk sc env) (re : EnvRel W env s.heap φ ρ) (S : SimW W s.heap φ σ) (R : Room A N)
    (he : ∀ r, starEach (a :: r) env = (false, eval a env) :: starEach r env) (ht : starEach [t] env = [(false, eval t env)]) (ha : OkE W cal N sc a x) (ev : Ev x cal ρ σ K)
    (k : ∀ av s₁ φ₁ v σ₁, Same s s₁ → Ext [] s.heap φ s₁.heap φ₁ → SimW W s₁.heap φ₁ σ₁ → Den s₁.heap φ₁ av v → K v σ₁ → wpAny (model prog w) A (eval t env) (fun tv s₂ => W.K.In s₂.heap ∧ wpAny (model prog w) A (call (.builtin "isinstance") [av, tv]) P E s₂) E s₁) :
    wpAny (model prog w) A (eval (.Call (.Name f fp) [a, t] [] pos) env) P E s := by
  subst hf
  refine Call_Name rfl (ld_free (by decide +kernel) (by decide +kernel) (by decide +kernel) boot_isinstance hg so re S ?_)
  have hst : (starEach [a, t] env).all (fun x => !x.1) = true := by rw [he, ht]; rfl
  have hb := backTo_all (pos := pos) hst
  refine callWith_of (P := W.K.In) (by rw [any_of_all hb]; rfl) Keeper'.builtin (evalArgs_l hb ?_)
  refine spliced_more (wpV (ha _ _ _ _ _ _ _ _ R so re S ev) fun av s₁ φ₁ v σ₁ e1 X1 S1 D1 ev => ?_) (he _)
  exact spliced_more (wpAny_mono (k av s₁ φ₁ v σ₁ e1 X1 S1 D1 ev) (fun tv s₂ g => spliced_none g) fun _ _ z => z) ht

omit [Hid] in
theorem OkE.isSeq {f t u : Str} {a : Expr} {x : T} {fp tp up kk tpos pos} (hg : isGlob sc f = true) (hf : f = ("isinstance" : Str)) (ht : isGlob sc t = true) (ht' : t = ("tuple" : Str)) (hu : isGlob sc u = true) (hu' : u = ("list" : Str)) (he : ∀ env r, starEach (a :: r) env = (false, eval a env) :: starEach r env) (ha : OkE W cal N sc a x) :
    OkE W cal N sc (.Call (.Name f fp) [a, .Tuple [.Name t tp, .Name u up] kk tpos] [] pos) (.prim .isSeq false (.cons x .nil)) := by
  intro _ A s env φ σ ρ Q E R so re S ev
  subst ht' hu'
  refine isi_call hg hf so re S R (he env) rfl ha ev fun av s₁ φ₁ v σ₁ e1 X1 S1 D1 ev => ?_
  have re1 := re.mono X1
  refine wpAny_Tuple_spliced (spliced_more (ld_free (by decide +kernel) (by decide +kernel) (by decide +kernel) boot_tuple ht so re1 S1 (spliced_more (ld_free (by decide +kernel) (by decide +kernel) (by decide +kernel) boot_list hu so re1 S1 (spliced_none ?_)))))
  refine ⟨by simp [sizeLine], ?_⟩
  have hk := keep_push (h := s₁.heap) { cls := .type "tuple", data := .seq [Value.type "tuple", Value.type "list"].toArray }
  have S2 := S1.keep hk
  refine ⟨Wd.kAt (φ := φ₁) (σ := σ₁) S2, ?_⟩
  exact wpV' (s₁ := { s₁ with heap := s₁.heap.push { cls := .type "tuple", data := .seq [Value.type "tuple", Value.type "list"].toArray } }) (e1.trans ⟨rfl, rfl, rfl⟩) (X1.trans (Ext.all hk)) (isi_seq S2 (D1.mono (Ext.all (own := []) hk) Bare.nil) ev (Heap.get?_push_size _ rfl))

omit [Hid] in
theorem OkE.isInt {f t : Str} {a : Expr} {x : T} {fp tp pos} (hg : isGlob sc f = true) (hf : f = ("isinstance" : Str)) (ht : isGlob sc t = true) (ht' : t = ("int" : Str)) (he : ∀ env r, starEach (a :: r) env = (false, eval a env) :: starEach r env) (ha : OkE W cal N sc a x) :
    OkE W cal N sc (.Call (.Name f fp) [a, .Name t tp] [] pos) (.prim .isInt false (.cons x .nil)) := by
  intro _ A s env φ σ ρ Q E R so re S ev
  subst ht'
  refine isi_call hg hf so re S R (he env) rfl ha ev fun av s₁ φ₁ v σ₁ e1 X1 S1 D1 ev => ?_
  refine ld_free (by decide +kernel) (by decide +kernel) (by decide +kernel) boot_int ht so (re.mono X1) S1 ⟨Wd.kAt S1, ?_⟩
  revert D1
  exact intW.e (P := fun x => Den _ _ av x → _) ev fun n q D1 => D1.intE fun t => IsiPair.int_int (.mk φ₁ _ σ₁ e1 X1 S1 (.bool _) q)
omit [Hid] in
theorem OkE.isBool {f t : Str} {a : Expr} {x : T} {fp tp pos} (hg : isGlob sc f = true) (hf : f = ("isinstance" : Str)) (ht : isGlob sc t = true) (ht' : t = ("bool" : Str)) (he : ∀ env r, starEach (a :: r) env = (false, eval a env) :: starEach r env) (ha : OkE W cal N sc a x) :
    OkE W cal N sc (.Call (.Name f fp) [a, .Name t tp] [] pos) (.prim .isBool false (.cons x .nil)) := by
  intro _ A s env φ σ ρ Q E R so re S ev
  subst ht'
  refine isi_call hg hf so re S R (he env) rfl ha ev fun av s₁ φ₁ v σ₁ e1 X1 S1 D1 ev => ?_
  refine ld_free (by decide +kernel) (by decide +kernel) (by decide +kernel) boot_bool ht so (re.mono X1) S1 ⟨Wd.kAt S1, ?_⟩
  revert D1
  exact intW.e (P := fun x => Den _ _ av x → _) ev fun n q D1 => D1.intE fun t => IsiPair.int_bool (.mk φ₁ _ σ₁ (e1.trans ⟨rfl, rfl, rfl⟩) X1 S1 (.bool _) q)

theorem keepAt {r : Nat} {a : Addr} (X : Ext [] s.heap φ s₁.heap φ₁) (hr : φ[r]? = some a) : φ₁[r]? = some a := by
  obtain ⟨t, rfl⟩ := X.pre
  rw [List.getElem?_append_left (List.getElem?_eq_some_iff.mp hr).1]; exact hr

theorem GotQ.nul {R : St → Prop} {val : Value} {s' : Shared} (g : GotQ W s φ (fun v σ' => v = .nul ∧ R σ') val s') (k : R = fun σ' => Q .nul σ') : GotQ W s φ Q val s' := by
  subst k
  obtain ⟨φ', v, σ', a, b, c, d, rfl, q⟩ := g
  exact .mk φ' _ σ' a b c d q

omit [Hid] in
theorem OkE.append {o e : Expr} {x y : T} {a : Str} {apos pos} (hm : methOk o apos pos 1 = true) (ha : a = ("append" : Str)) (ho : OkE W cal N sc o x) (he' : ∀ env r, starEach (e :: r) env = (false, eval e env) :: starEach r env) (he : OkE W cal N sc e y) : OkE W cal N sc (.Call (.Attribute o a apos) [e] [] pos) (.append x y) := by
  intro _ A s env φ σ ρ Q E R so re S ev
  subst ha
  have hL : OkL W cal N sc [e] (.cons y .nil) := .cons (fun env => he' env _) he .nil
  refine methCall hm (hL.1 env) (wpV (ho _ _ _ _ _ _ _ _ R so re S ev) fun av s₁ φ₁ ov σ₁ e1 X1 S1 D1 ev pl => ?_)
  unfold isListW at ev
  cases ov with
  | ref r =>
    obtain ⟨xs, q, ev⟩ := ev
    refine D1.refE fun a1 hr => ?_
    obtain ⟨items, ⟨n, hl1⟩, _⟩ := S1.at hr q
    refine PySem.Calls.getMethod_list_append hl1 rfl rfl ?_
    refine callW (Q := fun vs σ₂ => oneW vs fun v => appendW σ₂ (.ref r) v fun σ₃ => Q .nul σ₃) hL Keeper'.builtin R so (re.mono X1) S1 ev fun vals s₂ φ₂ vs σ₂ e2 X2 S2 D2 ev => ?_
    exact oneW.e ev D2 fun val v D3 ev => wpAny_mono (wpV' (e1.trans e2) (X1.trans X2) (snd_append S2 (keepAt X2 hr) D3 ev)) (fun _ _ g => g.nul rfl) fun _ _ z => z
  | _ => exact ev.elim

omit [Hid] in
theorem OkE.get {o k d : Expr} {x y z : T} {a : Str} {apos pos} (hm : methOk o apos pos 2 = true) (ha : a = ("get" : Str)) (ho : OkE W cal N sc o x) (hk' : ∀ env r, starEach (k :: r) env = (false, eval k env) :: starEach r env) (hk : OkE W cal N sc k y)
    (hd' : ∀ env r, starEach (d :: r) env = (false, eval d env) :: starEach r env) (hd : OkE W cal N sc d z) : OkE W cal N sc (.Call (.Attribute o a apos) [k, d] [] pos) (.get x y z) := by
  intro _ A s env φ σ ρ Q E R so re S ev
  subst ha
  have hL : OkL W cal N sc [k, d] (.cons y (.cons z .nil)) := .cons (fun env => hk' env _) hk (.cons (fun env => hd' env _) hd .nil)
  refine methCall hm (hL.1 env) (wpV (ho _ _ _ _ _ _ _ _ R so re S ev) fun av s₁ φ₁ ov σ₁ e1 X1 S1 D1 ev pl => ?_)
  unfold isDictW at ev
  cases ov with
  | ref r =>
    obtain ⟨es, b, q, hb, ev⟩ := ev
    refine D1.refE fun a1 hr => ?_
    obtain ⟨hsys, ⟨ob, _, _, eo, eT, _⟩, m1, m2⟩ := S1.at hr q
    have hno : ob.dict = none := by
      cases b with
      | true => obtain ⟨_, ⟨o2, _, _, e2, x2, _⟩, _⟩ := m1 (by simpa using hb); rw [eo] at e2; cases e2; exact x2.2.1
      | false => obtain ⟨_, ⟨o2, _, _, e2, x2, _⟩, _⟩ := m2 (by simpa using hb); rw [eo] at e2; cases e2; exact x2.2.1
    refine PySem.getMethod_builtin ⟨ob, eo, eT⟩ PySem.F.plainAttrs_dict PySem.F.slot_dict_get PySem.F.type_dict_get (fun a e => by cases e; exact ⟨ob, eo, hno⟩) ?_
    refine callW (Q := fun vs σ₃ => twoW vs fun x y => getW σ₃ (.ref r) x y fun v => Q v σ₃) hL Keeper'.builtin R so (re.mono X1) S1 ev fun vals s₂ φ₂ vs σ₂ e2 X2 S2 D2 ev => ?_
    exact twoW.e ev D2 fun kv dval kx dx D3 D4 ev => wpV' (e1.trans e2) (X1.trans X2) (snd_get (R.cline 10) S2 (keepAt X2 hr) D3 D4 ev)
  | _ => exact ev.elim

omit [Hid] in
theorem OkE.meth {o : Expr} {x : T} {es : List Expr} {ts : Ts} {a : Str} {f : Nat} {apos pos} (H : CalOk W N cal) (hm : methOk o apos pos es.length = true) (hf : fnCode a = some f) (hf' : isMethod f = true) (ho : OkE W cal N sc o x) (hL : OkL W cal N sc es ts) : OkE W cal N sc (.Call (.Attribute o a apos) es [] pos) (.meth f x ts) := by
  intro _ A s env φ σ ρ Q E R so re S ev
  have hx := fnCode_get hf
  have h27 := (meth_not_attr hf' hx).2
  refine methCall hm (hL.1 env) (wpV (ho _ _ _ _ _ _ _ _ R so re S ev) fun av s₁ φ₁ ov σ₁ e1 X1 S1 D1 ev pl => ?_)
  refine snd_method hf' hx S1 D1 ev fun ev => ?_
  exact callW hL (Keeper'.k (W.ok.keep f h27)) R so (re.mono X1) S1 ev fun vals s₂ φ₂ vs σ₂ e2 X2 S2 D2 ev =>
    wpV' (e1.trans e2) (X1.trans X2) (snd_call H R.toC h27 S2 (.cons (D1.mono X2 Bare.nil) D2) ev)
end
end Mine
end

section
set_option autoImplicit false
set_option maxRecDepth 100000
namespace Mine
open PySem PySem.W PyProof.Rows

theorem Ext.hide {own : List Addr} {h h' h'' : Heap} {φ φ' φ'' : Phi} (x : Ext [] h φ h' φ') (y : Ext own h' φ' h'' φ'') (hd : ∀ b ∈ own, h.get? b = none) : Ext [] h φ h'' φ'' where
  pre := x.pre.trans y.pre
  new := fun a ha => by
    rcases y.new a ha with h1 | h1
    · exact x.new a h1
    · by_cases hφ : a ∈ φ
      · exact .inl hφ
      · refine .inr ?_
        cases e : h.get? a with
        | none => rfl
        | some o => rw [x.keep a o e hφ (by simp)] at h1; cases h1
  keep := fun b o e h1 h2 => by
    refine y.keep b o (x.keep b o e h1 h2) (fun h3 => ?_) fun h4 => ?_
    · rcases x.new b h3 with h4 | h4
      · exact h1 h4
      · rw [h4] at e; cases e
    · rw [hd b h4] at e; cases e

theorem still_refl (σ : St) (x : V) : stillP σ σ x := match x with | .ref _ => rfl | .nul | .bool _ | .int _ | .seq _ _ | .rng _ _ => trivial
theorem still_of {σ σ' σ'' : St} {x : V} (a : stillP σ σ' x) (b : stillP σ σ'' x) : stillP σ' σ'' x := match x, a, b with | .ref _, a, b => Eq.trans b (Eq.symm a) | .nul, _, _ | .bool _, _, _ | .int _, _, _ | .seq _ _, _, _ | .rng _ _, _, _ => trivial
theorem still_trans {σ σ' σ'' : St} {x : V} (a : stillP σ σ' x) (b : stillP σ' σ'' x) : stillP σ σ'' x := match x, a, b with | .ref _, a, b => Eq.trans b a | .nul, _, _ | .bool _, _, _ | .int _, _, _ | .seq _ _, _, _ | .rng _ _, _, _ => trivial

noncomputable def clos (env : Env) : List (Str × NameKind) → List (Str × Addr) → List (Str × Addr)
  | [], acc => acc
  | (n, k) :: r, acc => if k == .free then clos env r ((n, (env.cells.lookup n).getD 0) :: acc) else clos env r acc
theorem clos_for {env : Env} {f : Str × NameKind → List (Str × Addr) → Sem (ForInStep (List (Str × Addr)))}
    (hf : ∀ name kind cs, f (name, kind) cs = if kind == .free then (do let c ← cellOf env name; pure (.yield ((name, c) :: cs))) else pure (.yield cs)) :
    ∀ (names : List (Str × NameKind)) (acc : List (Str × Addr)), (∀ y ∈ names, y.2 = .free → (env.cells.lookup y.1).isSome = true) → forIn names acc f = pure (clos env names acc)
  | [], acc, _ => by rw [List.forIn_nil]; rfl
  | (n, k) :: r, acc, h => by
    have hr := clos_for hf r
    rw [List.forIn_cons, hf]
    unfold clos
    cases hk : k == NameKind.free with
    | true =>
      obtain ⟨c, hc⟩ := Option.isSome_iff_exists.mp (h (n, k) (List.mem_cons_self) (beq_iff_eq.mp hk))
      simp only [if_true]
      have e : cellOf env n = pure c := by unfold cellOf; rw [hc]
      rw [e, hc]
      exact hr _ fun y hy => h y (List.mem_cons_of_mem _ hy)
    | false =>
      simp only [Bool.false_eq_true, if_false]
      exact hr _ fun y hy => h y (List.mem_cons_of_mem _ hy)
theorem closureFor_eq {scope : Scope} {env : Env} (h : ∀ y ∈ scope.names, y.2 = .free → (env.cells.lookup y.1).isSome = true) : closureFor scope env = pure (clos env scope.names []) := by
  unfold closureFor
  show (forIn scope.names ([] : List (Str × Addr)) _ >>= fun cs => pure cs) = _
  rw [clos_for (env := env) (fun name kind cs => rfl) scope.names [] h]
  rfl
theorem clos_mem {env : Env} : ∀ {names : List (Str × NameKind)} {acc : List (Str × Addr)} {n : Str} {c : Addr}, (n, c) ∈ clos env names acc → (n, c) ∈ acc ∨ ((n, NameKind.free) ∈ names ∧ c = (env.cells.lookup n).getD 0)
  | [], _, _, _, h => .inl h
  | (m, k) :: r, acc, n, c, h => by
    unfold clos at h
    split at h
    · rename_i hk
      rcases clos_mem h with h1 | ⟨h1, h2⟩
      · rcases List.mem_cons.mp h1 with h3 | h3
        · cases h3; exact .inr ⟨by rw [← beq_iff_eq.mp hk]; exact List.mem_cons_self, rfl⟩
        · exact .inl h3
      · exact .inr ⟨List.mem_cons_of_mem _ h1, h2⟩
    · rcases clos_mem h with h1 | ⟨h1, h2⟩
      · exact .inl h1
      · exact .inr ⟨List.mem_cons_of_mem _ h1, h2⟩
theorem lookup_cons_some {α : Type} {n m : Str} {c : α} {l : List (Str × α)} (h : (l.lookup n).isSome = true) : (((m, c) :: l).lookup n).isSome = true := by
  rw [List.lookup_cons]; split <;> simp_all
theorem clos_has {env : Env} : ∀ {names : List (Str × NameKind)} {acc : List (Str × Addr)} {n : Str}, ((acc.lookup n).isSome = true ∨ (n, NameKind.free) ∈ names) → ((clos env names acc).lookup n).isSome = true
  | [], _, _, h => by rcases h with h | h; exact h; exact nomatch h
  | (m, k) :: r, acc, n, h => by
    unfold clos
    split
    · rename_i hk
      refine clos_has ?_
      rcases h with h | h
      · exact .inl (lookup_cons_some h)
      · rcases List.mem_cons.mp h with e | e
        · cases e; left; simp [List.lookup_cons]
        · exact .inr e
    · rename_i hk
      refine clos_has ?_
      rcases h with h | h
      · exact .inl h
      · rcases List.mem_cons.mp h with e | e
        · cases e; exact absurd rfl hk
        · exact .inr e
theorem clos_apart {env : Env} (he : env.cells.Pairwise fun x y => x.2 ≠ y.2) (hc : ∀ n, (n, NameKind.free) ∈ ([] : List (Str × NameKind)) → True) : ∀ {names : List (Str × NameKind)} {acc : List (Str × Addr)}, (names.map (·.1)).Nodup → (∀ y ∈ names, y.2 = .free → (env.cells.lookup y.1).isSome = true) →
    (∀ x ∈ acc, env.cells.lookup x.1 = some x.2 ∧ x.1 ∉ names.map (·.1)) → (acc.Pairwise fun x y => x.2 ≠ y.2) → (clos env names acc).Pairwise fun x y => x.2 ≠ y.2
  | [], _, _, _, _, hp => hp
  | (m, k) :: r, acc, hn, hs, ha, hp => by
    rw [List.map_cons, List.nodup_cons] at hn
    have ha' : ∀ x ∈ acc, env.cells.lookup x.1 = some x.2 ∧ x.1 ∉ r.map (·.1) := fun x hx => ⟨(ha x hx).1, fun q => (ha x hx).2 (List.mem_cons_of_mem _ q)⟩
    unfold clos
    split
    · rename_i hk
      obtain ⟨c, hcl⟩ := Option.isSome_iff_exists.mp (hs (m, k) List.mem_cons_self (beq_iff_eq.mp hk))
      have hcl : env.cells.lookup m = some c := hcl
      rw [hcl]
      refine clos_apart he hc hn.2 (fun y hy => hs y (List.mem_cons_of_mem _ hy)) (fun x hx => ?_) (List.pairwise_cons.mpr ⟨fun y hy e => ?_, hp⟩)
      · rcases List.mem_cons.mp hx with rfl | hx
        · exact ⟨hcl, hn.1⟩
        · exact ha' x hx
      · have h1 := (ha y hy).1
        have e : c = y.2 := e
        have := name_of_addr he (mem_of_lookup hcl) (e ▸ mem_of_lookup h1)
        exact (ha y hy).2 (this ▸ List.mem_cons_self)
    · exact clos_apart he hc hn.2 (fun y hy => hs y (List.mem_cons_of_mem _ hy)) ha' hp

theorem lookup_of_mem {α : Type} {l : List (Str × α)} (hn : (l.map (·.1)).Nodup) {n : Str} {c : α} (h : (n, c) ∈ l) : l.lookup n = some c := by
  induction l with
  | nil => cases h
  | cons x r ih =>
    obtain ⟨m, d⟩ := x
    rw [List.map_cons, List.nodup_cons] at hn
    rw [List.lookup_cons]
    rcases List.mem_cons.mp h with e | e
    · cases e; simp
    · have : (n == m) = false := by
        cases hb : n == m with
        | false => rfl
        | true => exact absurd (List.mem_map.mpr ⟨(n, c), e, beq_iff_eq.mp hb⟩) hn.1
      rw [this]; exact ih hn.2 e

theorem relabel_nk {env : Env} : ∀ (names : List (Str × NameKind)) (x : Str),
    nk ((names.map fun (n, k) => if (k == NameKind.free && env.scope.kind == .function && env.kindOf n == some .cell) then (n, NameKind.cell) else (n, k)).lookup x) = nk (names.lookup x)
  | [], _ => rfl
  | (n, k) :: r, x => by
    have ih := relabel_nk (env := env) r x
    show nk (List.lookup x ((if (k == NameKind.free && env.scope.kind == .function && env.kindOf n == some .cell) = true then (n, NameKind.cell) else (n, k)) :: _)) = _
    cases hx : x == n with
    | true =>
      by_cases hc : (k == NameKind.free && env.scope.kind == .function && env.kindOf n == some .cell) = true
      · rw [if_pos hc]
        simp only [Bool.and_eq_true, beq_iff_eq] at hc
        simp only [List.lookup_cons, hx, hc.1.1]; rfl
      · rw [if_neg hc]; simp only [List.lookup_cons, hx]
    | false =>
      by_cases hc : (k == NameKind.free && env.scope.kind == .function && env.kindOf n == some .cell) = true
      · rw [if_pos hc]; simp only [List.lookup_cons, hx]; exact ih
      · rw [if_neg hc]; simp only [List.lookup_cons, hx]; exact ih

structure CompOk (sc scope : Scope) (x : Str) : Prop where
  kind : scope.kind = .function
  own : scope.names.lookup x = some .local
  nodup : (scope.names.map (·.1)).Nodup
  loc : ∀ n, (n, NameKind.local) ∈ scope.names → n = x ∨ n = ".0"
  free : ∀ n, (n, NameKind.free) ∈ scope.names → nk (sc.names.lookup n) = 2
  rest : ∀ y ∈ scope.names, y.2 = .local ∨ y.2 = .free ∨ y.2 = .globalImplicit
theorem compOk_of {sc scope : Scope} {x : Str} (h : compOk sc scope x = true) : CompOk sc scope x := by
  simp only [compOk, Bool.and_eq_true, decide_eq_true_eq, beq_iff_eq, List.all_eq_true] at h
  obtain ⟨⟨⟨h1, h2⟩, h3⟩, h4⟩ := h
  refine ⟨?_, h2, h3, fun n hn => ?_, fun n hn => ?_, fun y hy => ?_⟩
  · split at h1
    · assumption
    · cases h1
  · have := h4 _ hn
    simpa using this
  · have := h4 _ hn
    simp only at this
    split at this
    · rename_i q; rw [q]; rfl
    · rename_i q; rw [q]; rfl
    · cases this
  · have := h4 _ hy
    split at this
    · rename_i q; exact .inl q
    · rename_i q; exact .inr (.inl q)
    · rename_i q; exact .inr (.inr q)
    · cases this

section
variable [Hid]
variable {prog : Program} {w : World} {W : Wd prog w} {cal : PC} {N : Nat} {sc scope : Scope} {x : Str}
variable {A : Around} {s s₁ : Shared} {φ φ₁ : Phi} {σ σ' : St} {E : Value → Shared → Prop}

theorem CompOk.cells {env : Env} {h : Heap} {ρ : Rho} {m : Str → Option Value} (c : CompOk sc scope x) (so : ScopeOk sc env) (R : EnvAt W env h φ ρ m) : ∀ y ∈ scope.names, y.2 = .free → (env.cells.lookup y.1).isSome = true := fun y hy hf => by
  obtain ⟨n, k⟩ := y
  simp only at hf; subst hf
  exact R.has n (by rw [so]; exact c.free n hy)
omit [Hid] in
theorem CompOk.scopeOk {env : Env} {C : Addr} {cl : List (Str × Addr)} : ScopeOk scope (compEnvC scope cl C env) := fun y => relabel_nk (env := env) scope.names y

theorem CompOk.envAt {env : Env} {h : Heap} {ρ : Rho} {m mc : Str → Option Value} {C : Addr} {i : Nat} {v : V} {val : Value} (c : CompOk sc scope x) (so : ScopeOk sc env) (R : EnvAt W env h φ ρ m) (hx : nms[i]? = some x)
    (hn : h.Ns C mc) (hC0 : W.h₀.get? C = none) (hCφ : C ∉ φ) (hv : mc x = some val) (d : Den h φ val v) : EnvAt W (compEnvC scope (clos env scope.names []) C env) h φ (upd ρ i v) mc where
  kind := c.kind
  glob := R.glob
  blt := R.blt
  ns := hn
  lnew := hC0
  lφ := hCφ
  cell := fun n a hm => by
    rcases clos_mem hm with h1 | ⟨h1, h2⟩
    · cases h1
    · obtain ⟨a', ha'⟩ := Option.isSome_iff_exists.mp (c.cells so R _ h1 rfl)
      have ha' : env.cells.lookup n = some a' := ha'
      rw [ha'] at h2
      simp only [Option.getD_some] at h2
      subst h2
      exact R.cell n a (mem_of_lookup ha')
  apart := clos_apart R.apart (fun _ _ => trivial) c.nodup (c.cells so R) (fun _ hx => nomatch hx) .nil
  has := fun n hn2 => by
    have h1 : nk (scope.names.lookup n) = 2 := by rw [← CompOk.scopeOk (scope := scope) (env := env) (C := C) (cl := clos env scope.names []) n]; exact hn2
    refine clos_has (.inr ?_)
    cases hl : scope.names.lookup n with
    | none => rw [hl] at h1; cases h1
    | some k =>
      have hm := mem_of_lookup hl
      rcases c.rest _ hm with q | q | q <;> simp only at q <;> subst q
      · rw [hl] at h1; cases h1
      · exact hm
      · rw [hl] at h1; cases h1
  val := fun j y u hj hy => by
    have hs := CompOk.scopeOk (scope := scope) (env := env) (C := C) (cl := clos env scope.names []) y
    refine ⟨fun hk => ?_, fun hk => ?_⟩
    · rw [hk] at hs
      cases hl : scope.names.lookup y with
      | none => rw [hl] at hs; cases hs
      | some k =>
        have hm := mem_of_lookup hl
        rcases c.rest _ hm with q | q | q <;> simp only at q <;> subst q
        · rcases c.loc y hm with rfl | rfl
          · obtain rfl := nms_inj hx hy
            rw [upd_same] at hj; cases hj
            exact ⟨val, hv, d⟩
          · have : (".0" : Str) ∉ nms := by decide +kernel
            exact absurd (List.mem_of_getElem? hy) this
        · rw [hl] at hs; cases hs
        · rw [hl] at hs; cases hs
    · rw [hk] at hs
      cases hl : scope.names.lookup y with
      | none => rw [hl] at hs; cases hs
      | some k =>
        have hm := mem_of_lookup hl
        rcases c.rest _ hm with q | q | q <;> simp only at q <;> subst q
        · rw [hl] at hs; cases hs
        · have hyx : y ≠ x := by rintro rfl; rw [c.own] at hl; cases hl
          have hji : j ≠ i := fun e => hyx (by subst e; rw [hx] at hy; cases hy; rfl)
          rw [upd_ne hji] at hj
          obtain ⟨c', u', a, b, d'⟩ := (R.val j y u hj hy).2 (by rw [so]; exact c.free y hm)
          refine ⟨c', u', ?_, b, d'⟩
          obtain ⟨c2, hc2⟩ := Option.isSome_iff_exists.mp (clos_has (env := env) (names := scope.names) (acc := []) (n := y) (.inr hm))
          rcases clos_mem (mem_of_lookup hc2) with h1 | ⟨h1, h2⟩
          · cases h1
          · rw [a] at h2; simp only [Option.getD_some] at h2; subst h2; exact hc2
        · rw [hl] at hs; cases hs
end
end Mine
end

section
set_option autoImplicit false
set_option maxRecDepth 100000
namespace Mine
open PySem PySem.W PyProof.Rows

section
variable {prog : Program} {w : World} (W : Wd prog w) (cal : PC) (N : Nat)
noncomputable def OkT (sc : Scope) (ifs : List Expr) (t : T) : Prop :=
  ∀ [Hid] (A : Around) (s : Shared) (env : Env) (φ : Phi) (σ : St) (ρ : Rho) (K : Bool → St → Prop) (E : Value → Shared → Prop), Room A N → ScopeOk sc env → EnvRel W env s.heap φ ρ → SimW W s.heap φ σ → Ev t cal ρ σ (fun v σ' => boolW v fun b => K b σ') →
    wpAny (model prog w) A (forIn ifs true fun c r => if r = true then do let ok ← isTrue c env (eval c env); pure (ForInStep.yield ok) else pure (ForInStep.yield r)) (GotB W s φ K) E s
theorem OkT.nil {sc : Scope} : OkT W cal N sc [] (boolT true) := by
  intro _ A s env φ σ ρ K E R so re S ev
  exact wpAny_tests_nil (.mk φ σ (Same.refl _) (Ext.refl _ _ _) S ev)
theorem OkT.one {sc : Scope} {e : Expr} {t : T} (h : OkB W cal N sc e t) : OkT W cal N sc [e] t := by
  intro _ A s env φ σ ρ K E R so re S ev
  exact wpAny_tests_one (h _ _ _ _ _ _ _ _ R so re S ev)
end

section
variable [Hid]
variable {prog : Program} {w : World} {W : Wd prog w} {cal : PC} {N : Nat} {sc scope : Scope} {x : Str}
variable {A : Around} {E : Value → Shared → Prop}

structure Turn (W : Wd prog w) (env : Env) (ρ : Rho) (s₁ : Shared) (φ₁ : Phi) (σ₁ : St) (I C : Addr) (xv : V) (items : List V) (s : Shared) (φ : Phi) (σ : St) (i : Nat) : Prop where
  same : Same s₁ s
  ext : Ext [] s₁.heap φ₁ s.heap φ
  sim : SimW W s.heap φ σ
  it : ItAt W s.heap φ σ I xv items i
  env : ∃ m, EnvAt W env s.heap φ ρ m
  ns : ∃ m, s.heap.Ns C m
  off : C ∉ φ
  still : stillP σ₁ σ xv

structure MadeC (W : Wd prog w) (env : Env) (s₁ : Shared) (I C D : Addr) : Prop where
  dI : s₁.heap.get? I = none
  dC : s₁.heap.get? C = none
  dD : s₁.heap.get? D = none
  cC : W.h₀.get? C = none
  cD : W.h₀.get? D = none
  CI : C ≠ I
  DC : D ≠ C
  DI : D ≠ I
  own : ∀ b ∈ ownOf env, ∃ o, s₁.heap.get? b = some o

variable {env : Env} {ρ : Rho} {s₁ s s' : Shared} {φ₁ φ φ' : Phi} {σ₁ σ σ' : St} {I C D : Addr} {xv : V} {items : List V} {i : Nat}

theorem Turn.step {own : List Addr} (T : Turn W env ρ s₁ φ₁ σ₁ I C xv items s φ σ i) (M : MadeC W env s₁ I C D) (hS : Same s s') (X : Ext own s.heap φ s'.heap φ') (hb : Bare s.heap own) (hd : ∀ b ∈ own, s₁.heap.get? b = none) (hI : I ∉ own) (hC : C ∉ own) (S' : SimW W s'.heap φ' σ')
    (hst : stillP σ₁ σ' xv) : Turn W env ρ s₁ φ₁ σ₁ I C xv items s' φ' σ' i := by
  obtain ⟨m, R⟩ := T.env
  obtain ⟨mc, hn⟩ := T.ns
  refine ⟨T.same.trans hS, T.ext.hide X hd, S', T.it.frame X hb hI (still_of T.still hst), ⟨m, R.mono' X hb fun b hb' hm => ?_⟩, ⟨mc, hn.at' fun o e => X.keep _ _ e T.off hC⟩, ?_, hst⟩
  · obtain ⟨o, e⟩ := M.own b hm
    rw [hd b hb'] at e; cases e
  · obtain ⟨o, es, ep, e, _⟩ := hn
    exact X.notIn e T.off

theorem Turn.bareC (T : Turn W env ρ s₁ φ₁ σ₁ I C xv items s φ σ i) : Bare s.heap [C] := fun b hb => by
  have e : b = C := by simpa using hb
  obtain ⟨mc, o, es, ep, q, d, _⟩ := T.ns
  exact .inr ⟨o, e ▸ q, .inl ⟨_, _, d⟩⟩

theorem Turn.bareIC (T : Turn W env ρ s₁ φ₁ σ₁ I C xv items s φ σ i) : Bare s.heap [I, C] := fun b hb => by
  rcases List.mem_cons.mp hb with e | hb
  · exact T.it.bare b (by simp [e])
  · exact T.bareC b hb

theorem Turn.next (T : Turn W env ρ s₁ φ₁ σ₁ I C xv items s φ σ i) (M : MadeC W env s₁ I C D) (c : CompOk sc scope x) (so : ScopeOk sc env) {k : Nat} (hx : nms[k]? = some x) {v : V} (hv : items[i]? = some v) {px : Pos} {Q : Option Value → Shared → Prop} {E' : Value → Shared → Prop} {P : Unit → Shared → Prop}
    (hQ : ∀ val s', wpAny (model prog w) A (assign (.Name x px) (compEnvC scope (clos env scope.names []) C env) val) P E' s' → Q (some val) s')
    (h : ∀ s'', Turn W env ρ s₁ φ₁ σ₁ I C xv items s'' φ σ (i + 1) → Ext [I, C] s.heap φ s''.heap φ → EnvRel W (compEnvC scope (clos env scope.names []) C env) s''.heap φ (upd ρ k v) → P () s'') :
    wpAny (model prog w) A (pyNext (.ref I)) Q E s := by
  refine it_next T.sim T.it hv fun val s' oi S' it' d' => ?_
  have bI := T.it.bare
  obtain ⟨m, R⟩ := T.env
  obtain ⟨mc, hn⟩ := T.ns
  have notI : ∀ b ∈ [I], b ∉ ownOf env := fun b hb hm => by
    have e : b = I := by simpa using hb
    exact T.it.notEnv R (e ▸ hm)
  have R' := R.mono' oi.ext bI notI
  have hn' : s'.heap.Ns C mc := hn.at' fun o e => oi.keep C o M.CI e
  refine hQ val s' ?_
  refine assign_Name (wpAny_storeName_local (lookup_relabel_local c.own) hn' (fun h' hn'' hs => ?_) (by
    show (scope.kind == .class || (scope.kind == .module && C != env.globals)) = false
    rw [c.kind]; rfl))
  have hs : Heap.SameBut C s'.heap h' := hs
  have hn'' : h'.Ns C (fun y => if y = x then some val else mc y) := hn''
  have bC : Bare s'.heap [C] := fun b hb => by
    have e : b = C := by simpa using hb
    obtain ⟨o, es, ep, q, d, _⟩ := hn'
    exact .inr ⟨o, e ▸ q, .inl ⟨_, _, d⟩⟩
  have oneC : ∀ b ∈ [C], b = C := fun b hb => by simpa using hb
  obtain ⟨S'', X⟩ := S'.atOwn (h' := h') bC (fun b hb => by rw [oneC b hb]; exact M.cC) (fun b hb => by rw [oneC b hb]; exact T.off) (fun b hb hz => by
    rw [oneC b hb]; obtain ⟨o, _, _, e, _⟩ := hn''; exact ⟨o, e⟩) (fun b o hb e => (hs.2 b (by simpa using hb)).trans e)
  have xI : Ext [] s₁.heap φ₁ s'.heap φ := T.ext.hide oi.ext fun b hb => by
    have e : b = I := by simpa using hb
    rw [e]; exact M.dI
  have notC : ∀ b ∈ [C], b ∉ ownOf env := fun b hb hm => by
    obtain ⟨o, e⟩ := M.own b hm
    rw [oneC b hb, M.dC] at e; cases e
  have R'' := R'.mono' (h' := h') X bC notC
  refine h _ ⟨T.same.trans (oi.same.trans ⟨rfl, rfl, rfl⟩), xI.hide X fun b hb => by rw [oneC b hb]; exact M.dC, S'', it'.frame X bC (by simpa using M.CI.symm) (still_refl σ xv), ⟨m, R''⟩, ⟨_, hn''⟩, T.off, T.still⟩ ?_
    ⟨_, c.envAt so R'' hx hn'' M.cC T.off (by simp) (d'.mono X bC)⟩
  refine ⟨List.prefix_refl _, fun _ h => .inl h, fun b o e h1 h2 => ?_⟩
  simp only [List.mem_cons, List.not_mem_nil, or_false, not_or] at h2
  exact (hs.2 b h2.2).trans (oi.keep b o h2.1 e)

theorem mem_one {D b : Addr} (hb : b ∈ [D]) : b = D := List.mem_singleton.mp hb
theorem Turn.end_ (T : Turn W env ρ s₁ φ₁ σ₁ I C xv items s φ σ i) (M : MadeC W env s₁ I C D) (hA : A.handled = none) (hi : items.length ≤ i) {Q : Option Value → Shared → Prop}
    (k : ∀ s', OnlyIt I s s' → Same s₁ s' → Ext [] s₁.heap φ₁ s'.heap φ → Ext [I] s.heap φ s'.heap φ → Bare s.heap [I] → SimW W s'.heap φ σ → (∃ m, s'.heap.Ns C m) → (∃ m, EnvAt W env s'.heap φ ρ m) → Q none s') : wpAny (model prog w) A (pyNext (.ref I)) Q E s := by
  refine it_end hA T.sim T.it hi fun s2 oi S2 => ?_
  obtain ⟨m, R⟩ := T.env
  obtain ⟨mc, hn⟩ := T.ns
  exact k s2 oi (T.same.trans oi.same) (T.ext.hide oi.ext fun b hb => by rw [mem_one hb]; exact M.dI) oi.ext T.it.bare S2 ⟨mc, hn.at' fun o e => oi.keep C o M.CI e⟩ ⟨m, R.mono' oi.ext T.it.bare fun b hb hm => T.it.notEnv R (mem_one hb ▸ hm)⟩

theorem loop_value {elt iter : Expr} {ifs : List Expr} {px pos : Pos} {k : Nat} {te tc : T} {RR : Result → Shared → Prop} {P : Nat → List V → St → Prop} (H : Room A N) (he : OkE W cal N scope elt te) (ht : OkT W cal N scope ifs tc)
    (c : CompOk sc scope x) (so : ScopeOk sc env) (hx : nms[k]? = some x) (M : MadeC W env s₁ I C D) (hz : Hid.z D)
    (T₀ : Turn W env ρ s₁ φ₁ σ₁ I C xv items s φ σ 0) (hacc : s.heap.PlainList D #[]) (hL : items.length ≤ LIM) (h0 : P 0 [] σ)
    (hs : ∀ i v acc σ', items[i]? = some v → P i acc σ' → Ev tc cal (upd ρ k v) σ' fun c σ'' => boolW c fun b => brW b (Ev te cal (upd ρ k v) σ'' fun u σ₃ => stillP σ₁ σ₃ xv ∧ P (i + 1) (acc ++ [u]) σ₃) (stillP σ₁ σ'' xv ∧ P (i + 1) acc σ''))
    (fin : ∀ s' φ' σf out ys, P items.length out σf → Same s₁ s' → Ext [] s₁.heap φ₁ s'.heap φ' → SimW W s'.heap φ' σf → (∃ m, s'.heap.Ns C m) → C ∉ φ' → s'.heap.PlainList D ys → out.length ≤ LIM → Dens s'.heap φ' ys.toList out → (∃ m, EnvAt W env s'.heap φ' ρ m) → RR (.ok .next) s') :
    codeAny (model prog w) A (.compLoop (.ListComp elt [⟨.Name x px, iter, ifs, 0⟩] scope pos) 0 (.ref I) (.ref D) (compEnvC scope (clos env scope.names []) C env)) RR s := by
  refine codeAny_compLoop_tests (fun n s' => ∃ i φ' σ' acc ys, n + i = items.length + 1 ∧ i ≤ items.length ∧ Turn W env ρ s₁ φ₁ σ₁ I C xv items s' φ' σ' i ∧ s'.heap.PlainList D ys ∧ acc.length ≤ i ∧ Dens s'.heap φ' ys.toList acc ∧ P i acc σ') ?_ (items.length + 1)
    ⟨0, φ, σ, [], #[], rfl, Nat.zero_le _, T₀, hacc, Nat.zero_le _, .nil, h0⟩
  rintro n s' ⟨i, φ', σ', acc, ys, hn, hi, T, hpl, hal, hd, hP⟩
  have hDφ : D ∉ φ' := (T.sim.hid D hz).1
  have hin : items.length - i < n := by omega
  have hnx : items.length - i + (i + 1) = items.length + 1 := by omega
  by_cases hlt : i < items.length
  · have hv : items[i]? = some items[i] := List.getElem?_eq_getElem hlt
    have bIC := T.bareIC
    refine T.next (px := px) M c so hx hv (fun val s' h => h) fun s2 T2 X2 R2 => ?_
    have hpl2 : s2.heap.PlainList D ys := hpl.at fun o e => X2.keep D o e hDφ (by simp [M.DI, M.DC])
    refine wpB (ht A s2 _ φ' σ' _ _ _ H CompOk.scopeOk R2 T2.sim (hs i _ acc σ' hv hP)) fun b s3 φ3 σ3 e3 X3 S3 ev => ?_
    have hpl3 : s3.heap.PlainList D ys := hpl2.at fun o e => X3.keep D o e hDφ List.not_mem_nil
    have hd3 := (hd.mono X2 bIC).mono X3 Bare.nil
    cases b with
    | false =>
      exact ⟨items.length - i, hin, i + 1, φ3, σ3, acc, ys, hnx, hlt, T2.step M e3 X3 Bare.nil (fun _ h => nomatch h) List.not_mem_nil List.not_mem_nil S3 ev.1, hpl3, Nat.le_succ_of_le hal, hd3, ev.2⟩
    | true =>
      refine wpV (he A s3 _ φ3 σ3 _ _ _ H CompOk.scopeOk (R2.mono X3) S3 ev) fun val s4 φ4 u σ4 e4 X4 S4 D4 ev => ?_
      have hpl4 : s4.heap.PlainList D ys := hpl3.at fun o e => X4.keep D o e (S3.hid D hz).1 List.not_mem_nil
      have hd4 := hd3.mono X4 Bare.nil
      have T4 := T2.step M (e3.trans e4) (X3.trans X4) Bare.nil (fun _ h => nomatch h) List.not_mem_nil List.not_mem_nil S4 ev.1
      refine wpAny_list_append_plain hpl4 (fun h' hl' hsb => ?_) (by rw [hd4.len]; exact LIM_le (Nat.le_trans hal (Nat.le_trans hi hL)))
      have bD : Bare s4.heap [D] := fun b hb => .inl (by rw [mem_one hb]; exact hz)
      obtain ⟨S5, X5⟩ := S4.atOwn (h' := h') bD (fun b hb => by rw [mem_one hb]; exact M.cD) (fun b hb => by rw [mem_one hb]; exact (S4.hid D hz).1) (fun b hb _ => by
        rw [mem_one hb]; obtain ⟨n, e⟩ := hl'; exact ⟨_, e⟩) (fun b o hb e => (hsb.2 b (fun q => hb (List.mem_singleton.mpr q))).trans e)
      have T5 := T4.step (s' := { s4 with heap := h' }) M ⟨rfl, rfl, rfl⟩ X5 bD (fun b hb => by rw [mem_one hb]; exact M.dD) (fun h => M.DI (mem_one h).symm) (fun h => M.DC (mem_one h).symm) S5 ev.1
      refine ⟨items.length - i, hin, i + 1, φ4, σ4, acc ++ [u], ys.push val, hnx, hlt, T5, hl', by rw [List.length_append]; exact Nat.succ_le_succ hal, ?_, ev.2⟩
      rw [Array.toList_push]
      exact (hd4.mono X5 bD).append (.cons (D4.mono X5 bD) .nil)
  · obtain rfl : i = items.length := Nat.le_antisymm hi (Nat.le_of_not_lt hlt)
    exact T.end_ M H.handled (Nat.le_refl _) fun s2 oi e X XI bI S2 hn hR => fin s2 φ' σ' acc ys hP e X S2 hn T.off (hpl.at fun o e => oi.keep D o M.DI e) (Nat.le_trans hal hL) (hd.mono XI bI) hR
end
end Mine
end

section
set_option autoImplicit false
set_option maxRecDepth 100000
namespace Mine
open PySem PySem.W PyProof.Rows

noncomputable def zMore (z : Addr → Prop) (D : Addr) : Addr → Prop := fun b => z b ∨ b = D

section
variable [hi : Hid]
variable {prog : Program} {w : World} {W : Wd prog w} {cal : PC} {N : Nat} {sc scope : Scope} {x : Str}
variable {A : Around} {E : Value → Shared → Prop}
variable {env : Env} {ρ : Rho} {s₁ s s' : Shared} {φ₁ φ φ' : Phi} {σ₁ σ σ' : St} {I C D : Addr} {xv : V} {items : List V} {i : Nat}

theorem loop_ref {elt iter : Expr} {ifs : List Expr} {px pos : Pos} {k r : Nat} {te tc : T} {RR : Result → Shared → Prop} {P : Nat → St → Prop} (H : Room A N) (he : OkE W cal N scope elt te) (ht : OkT W cal N scope ifs tc)
    (c : CompOk sc scope x) (so : ScopeOk sc env) (hx : nms[k]? = some x) (M : MadeC W env s₁ I C D) (hr : φ[r]? = some D)
    (T₀ : Turn W env ρ s₁ φ₁ σ₁ I C xv items s φ σ 0) (h0 : P 0 σ)
    (hs : ∀ i v σ', items[i]? = some v → P i σ' → Ev tc cal (upd ρ k v) σ' fun c σ'' => boolW c fun b => brW b (Ev te cal (upd ρ k v) σ'' fun u σ₃ => stillP σ₁ σ₃ xv ∧ appendW σ₃ (.ref r) u fun σ₄ => stillP σ₁ σ₄ xv ∧ P (i + 1) σ₄) (stillP σ₁ σ'' xv ∧ P (i + 1) σ''))
    (fin : ∀ s' φ' σf, P items.length σf → Same s₁ s' → Ext [] s₁.heap φ₁ s'.heap φ' → SimW W s'.heap φ' σf → (∃ m, s'.heap.Ns C m) → C ∉ φ' → φ'[r]? = some D → (∃ m, EnvAt W env s'.heap φ' ρ m) → RR (.ok .next) s') :
    codeAny (model prog w) A (.compLoop (.ListComp elt [⟨.Name x px, iter, ifs, 0⟩] scope pos) 0 (.ref I) (.ref D) (compEnvC scope (clos env scope.names []) C env)) RR s := by
  refine codeAny_compLoop_tests (fun n s' => ∃ i φ' σ', n + i = items.length + 1 ∧ i ≤ items.length ∧ Turn W env ρ s₁ φ₁ σ₁ I C xv items s' φ' σ' i ∧ φ'[r]? = some D ∧ P i σ') ?_ (items.length + 1)
    ⟨0, φ, σ, rfl, Nat.zero_le _, T₀, hr, h0⟩
  rintro n s' ⟨i, φ', σ', hn, hi, T, hr, hP⟩
  have hin : items.length - i < n := by omega
  have hnx : items.length - i + (i + 1) = items.length + 1 := by omega
  by_cases hlt : i < items.length
  · have hv : items[i]? = some items[i] := List.getElem?_eq_getElem hlt
    refine T.next (px := px) M c so hx hv (fun val s' h => h) fun s2 T2 X2 R2 => ?_
    refine wpB (ht A s2 _ φ' σ' _ _ _ H CompOk.scopeOk R2 T2.sim (hs i _ σ' hv hP)) fun b s3 φ3 σ3 e3 X3 S3 ev => ?_
    cases b with
    | false => exact ⟨items.length - i, hin, i + 1, φ3, σ3, hnx, hlt, T2.step M e3 X3 Bare.nil (fun _ h => nomatch h) List.not_mem_nil List.not_mem_nil S3 ev.1, keepAt X3 hr, ev.2⟩
    | true =>
      refine wpV (he A s3 _ φ3 σ3 _ _ _ H CompOk.scopeOk (R2.mono X3) S3 ev) fun val s4 φ4 u σ4 e4 X4 S4 D4 ev => ?_
      have hr4 := keepAt (X3.trans X4) hr
      refine wpV (snd_append S4 hr4 D4 ev.2) fun nv s5 φ5 v5 σ5 e5 X5 S5 D5 ev => ?_
      have T5 := T2.step M ((e3.trans e4).trans e5) ((X3.trans X4).trans X5) Bare.nil (fun _ h => nomatch h) List.not_mem_nil List.not_mem_nil S5 ev.2.1
      exact ⟨items.length - i, hin, i + 1, φ5, σ5, hnx, hlt, T5, keepAt X5 hr4, ev.2.2⟩
  · obtain rfl : i = items.length := Nat.le_antisymm hi (Nat.le_of_not_lt hlt)
    exact T.end_ M H.handled (Nat.le_refl _) fun s2 oi e X XI bI S2 hn hR => fin s2 φ' σ' hP e X S2 hn T.off hr hR

theorem Off.more {z' : Addr → Prop} {φ : Phi} {a : Addr} (hz : ∀ b, z' b → Hid.z b ∨ b = D) (h : Off φ a) (hne : a ≠ D) : @Off (Hid.mk z') φ a := ⟨h.1, fun q => (hz a q).elim h.2 hne⟩
theorem Off.less {z' : Addr → Prop} {φ : Phi} {a : Addr} (hz : ∀ b, Hid.z b → z' b) (h : @Off (Hid.mk z') φ a) : Off φ a := ⟨h.1, fun q => h.2 (hz a q)⟩

theorem Den.conv {z' : Addr → Prop} {h h' : Heap} {φ : Phi} (hk : ∀ b o, Off φ b → h.get? b = some o → h'.get? b = some o ∧ @Off (Hid.mk z') φ b) :
    (∀ {v : Value} {x : V}, Den h φ v x → @Den (Hid.mk z') h' φ v x) ∧ (∀ {v : List Value} {x : List V}, Dens h φ v x → @Dens (Hid.mk z') h' φ v x) := by
  have h1 : ∀ {v : Value} {x : V}, Den h φ v x → @Den (Hid.mk z') h' φ v x := by
    intro v x d
    refine Den.rec (motive_1 := fun v x _ => @Den (Hid.mk z') h' φ v x) (motive_2 := fun vs xs _ => @Dens (Hid.mk z') h' φ vs xs) ?_ ?_ ?_ ?_ ?_ ?_ ?_ ?_ ?_ d
    · exact @Den.nul (Hid.mk z') _ _
    · exact fun b => @Den.bool (Hid.mk z') _ _ b
    · exact fun i t => @Den.int (Hid.mk z') _ _ i t
    · exact fun l ha hz _ ih => let ⟨o, e, c, n, q⟩ := l; @Den.list (Hid.mk z') _ _ _ _ _ ⟨o, (hk _ o ha e).1, c, n, q⟩ (hk _ o ha e).2 hz ih
    · exact fun l ha hz _ ih => let ⟨o, e, c, n, q⟩ := l; @Den.tup (Hid.mk z') _ _ _ _ _ ⟨o, (hk _ o ha e).1, c, n, q⟩ (hk _ o ha e).2 hz ih
    · exact fun r ha => @Den.rng (Hid.mk z') _ _ _ _ _ _ _ _ (hk _ _ ha r).1 (hk _ _ ha r).2
    · exact fun e => @Den.ref (Hid.mk z') _ _ _ _ e
    · exact @Dens.nil (Hid.mk z') _ _
    · exact fun _ _ i1 i2 => @Dens.cons (Hid.mk z') _ _ _ _ _ _ i1 i2
  have h2 : ∀ {v : List Value} {x : List V}, Dens h φ v x → @Dens (Hid.mk z') h' φ v x := by
    intro v
    induction v with
    | nil => intro x d; cases d; exact @Dens.nil (Hid.mk z') _ _
    | cons a r ih => intro x d; cases d with | cons da dr => exact @Dens.cons (Hid.mk z') _ _ _ _ _ _ (h1 da) (ih dr)
  exact ⟨h1, h2⟩
theorem MDen.conv {z' : Addr → Prop} {h : Heap} {φ : Phi} (hk : ∀ b o, Off φ b → h.get? b = some o → h.get? b = some o ∧ @Off (Hid.mk z') φ b) {C a : Addr} {o : MO} (m : MDen prog w C h φ a o) : @MDen (Hid.mk z') prog w C h φ a o := by
  have c := Den.conv (z' := z') hk
  cases o with
  | list xs => obtain ⟨items, l, hz, d⟩ := m; exact ⟨items, l, hz, c.2 d⟩
  | dict es =>
    obtain ⟨hs, hq, m1, m2⟩ := m
    refine ⟨hs, hq, fun hi => ?_, fun hi => ?_⟩
    · obtain ⟨kvs, r, ha⟩ := m1 hi
      exact ⟨kvs, r, ha.mono fun _ _ q => ⟨q.1, c.1 q.2⟩⟩
    · obtain ⟨xs, r, ha⟩ := m2 hi
      exact ⟨xs, r, ha.mono fun _ _ q => ⟨q.1, c.1 q.2.1, c.1 q.2.2⟩⟩
  | ns es => obtain ⟨l, n, eo, d⟩ := m; exact ⟨l, n, eo, All2.mono (fun _ _ q => ⟨q.1, c.1 q.2⟩) d⟩
  | inst d => exact m
theorem Sim.conv {z' : Addr → Prop} {h : Heap} {φ : Phi} (hk : ∀ b o, Off φ b → h.get? b = some o → h.get? b = some o ∧ @Off (Hid.mk z') φ b) (S : SimW W h φ σ) (hh : ∀ a, z' a → a ∉ φ ∧ ∃ o, h.get? a = some o) : @SimW (Hid.mk z') prog w W h φ σ :=
  @Sim.mk (Hid.mk z') prog w W.C W.h₀ h φ σ S.base S.nodup S.len (fun i o e => let ⟨a, q, m⟩ := S.obj i o e; ⟨a, q, m.conv hk⟩) hh
theorem EnvAt.conv {z' : Addr → Prop} {h : Heap} {φ : Phi} {m : Str → Option Value} (hk : ∀ b o, Off φ b → h.get? b = some o → h.get? b = some o ∧ @Off (Hid.mk z') φ b) (R : EnvAt W env h φ ρ m) : @EnvAt (Hid.mk z') prog w W env h φ ρ m :=
  @EnvAt.mk (Hid.mk z') prog w W env h φ ρ m R.kind R.glob R.blt R.ns R.lnew R.lφ R.cell R.apart R.has fun i x v a b => by
    obtain ⟨h1, h2⟩ := R.val i x v a b
    have c := Den.conv (z' := z') hk
    exact ⟨fun q => let ⟨val, p, d⟩ := h1 q; ⟨val, p, c.1 d⟩, fun q => let ⟨cc, val, p, l, d⟩ := h2 q; ⟨cc, val, p, l, c.1 d⟩⟩
theorem ItAt.conv {z' : Addr → Prop} {h : Heap} {φ : Phi} (hk : ∀ b o, Off φ b → h.get? b = some o → h.get? b = some o ∧ @Off (Hid.mk z') φ b) (it : ItAt W h φ σ I xv items i) : @ItAt (Hid.mk z') prog w W h φ σ I xv items i := by
  have c := Den.conv (z' := z') hk
  obtain ⟨off, new, ⟨o, vs, eo, ed, ec⟩, at_⟩ := it
  refine @ItAt.mk (Hid.mk z') prog w W h φ σ I xv items i (hk _ _ off eo).2 new ⟨o, vs, eo, ed, ec⟩ ?_
  rcases at_ with ⟨ax, its, hit, ⟨ol, el, cl, n, dl⟩, ha, d, ht⟩ | ⟨ax, its, hit, ⟨ol, el, cl, n, dl⟩, ha, d, ht⟩ | ⟨ax, r, rfl, hit, hr, hσ⟩ | ⟨lo, n, hx, hxs, hi, hit⟩
  · exact .inl ⟨ax, its, hit, ⟨ol, el, cl, n, dl⟩, (hk _ _ ha el).2, c.2 d, ht⟩
  · exact .inr (.inl ⟨ax, its, hit, ⟨ol, el, cl, n, dl⟩, (hk _ _ ha el).2, c.2 d, ht⟩)
  · exact .inr (.inr (.inl ⟨ax, r, rfl, hit, hr, hσ⟩))
  · exact .inr (.inr (.inr ⟨lo, n, hx, hxs, hi, hit⟩))
theorem Sim.hideNew {z' : Addr → Prop} {h h' : Heap} {φ : Phi} (hz : ∀ b, z' b → Hid.z b ∨ b = D) (hD : h.get? D = none) (hk : ∀ b o, h.get? b = some o → h'.get? b = some o) (hD' : ∃ o, h'.get? D = some o) (S : SimW W h φ σ) : @SimW (Hid.mk z') prog w W h' φ σ := by
  have off := (off_dead S hD).1
  have hc : ∀ b o, Off φ b → h.get? b = some o → h.get? b = some o ∧ @Off (Hid.mk z') φ b := fun b o ha e => ⟨e, ha.more hz (by rintro rfl; rw [hD] at e; cases e)⟩
  refine @Sim.mk (Hid.mk z') prog w W.C W.h₀ h' φ σ (fun b o e => ⟨hk b o (S.base b o e).1, (S.base b o e).2⟩) S.nodup S.len (fun i o e => ?_) (fun a ha => ?_)
  · obtain ⟨a, q, m⟩ := S.obj i o e
    obtain ⟨ob, eo, _⟩ := m.alive
    exact ⟨a, q, @MDen.mono (Hid.mk z') prog w [] h h' φ φ W.C (Ext.all hk) (@Bare.nil (Hid.mk z') h) a ((hk a ob eo).trans eo.symm) o (m.conv hc)⟩
  · rcases hz a ha with q | rfl
    · obtain ⟨h1, o, e⟩ := S.hid a q; exact ⟨h1, o, hk a o e⟩
    · exact ⟨off, hD'⟩
theorem EnvAt.hideNew {z' : Addr → Prop} {h h' : Heap} {φ : Phi} {m : Str → Option Value} (hz : ∀ b, z' b → Hid.z b ∨ b = D) (hD : h.get? D = none) (hk : ∀ b o, h.get? b = some o → h'.get? b = some o) (R : EnvAt W env h φ ρ m) : @EnvAt (Hid.mk z') prog w W env h' φ ρ m :=
  @EnvAt.mono (Hid.mk z') prog w W env h h' φ φ ρ m (R.conv fun b o ha e => ⟨e, ha.more hz (by rintro rfl; rw [hD] at e; cases e)⟩) (Ext.all hk)
theorem ItAt.hideNew {z' : Addr → Prop} {h h' : Heap} {φ : Phi} (hz : ∀ b, z' b → Hid.z b ∨ b = D) (hD : h.get? D = none) (hk : ∀ b o, h.get? b = some o → h'.get? b = some o) (it : ItAt W h φ σ I xv items i) : @ItAt (Hid.mk z') prog w W h' φ σ I xv items i :=
  @ItAt.frame (Hid.mk z') prog w W σ σ [] h h' φ φ I xv items i (it.conv fun b o ha e => ⟨e, ha.more hz (by rintro rfl; rw [hD] at e; cases e)⟩) (Ext.all hk) (@Bare.nil (Hid.mk z') h) (by simp) (still_refl σ xv)

theorem own_alive {m : Str → Option Value} (R : EnvAt W env s.heap φ ρ m) : ∀ b ∈ ownOf env, ∃ o, s.heap.get? b = some o := fun b hb => by
  rcases List.mem_cons.mp hb with rfl | hb
  · obtain ⟨o, es, ep, e, d, _⟩ := R.ns; exact ⟨o, e⟩
  · obtain ⟨⟨n, c⟩, hm, rfl⟩ := List.mem_map.mp hb
    obtain ⟨⟨v, o, e, d⟩, _⟩ := R.cell n c hm
    exact ⟨o, e⟩
theorem h0_dead (S : SimW W s.heap φ σ) {a : Addr} (h : s.heap.get? a = none) : W.h₀.get? a = none := by
  cases q : W.h₀.get? a with
  | none => rfl
  | some o => rw [(S.base _ _ q).1] at h; cases h
theorem still_push {o : MO} {K : List V → Prop} (h : overW σ xv K) : stillP σ (σ ++ [o]) xv := by
  unfold overW at h
  cases xv with
  | ref r =>
    obtain ⟨xs, hr, _⟩ := h
    exact (List.getElem?_append_left (List.getElem?_eq_some_iff.mp hr).1)
  | _ => trivial

structure Start (W : Wd prog w) (env : Env) (s : Shared) (φ : Phi) (σ : St) (xv : V) (items : List V) (I C D : Addr) (s₂ : Shared) (h₁ : Heap) : Prop where
  same : Same s s₂
  k2 : ∀ b o, s.heap.get? b = some o → s₂.heap.get? b = some o
  sim : SimW W s₂.heap φ σ
  it : ItAt W s₂.heap φ σ I xv items 0
  dD : s₂.heap.get? D = none
  k4 : ∀ b o, s₂.heap.get? b = some o → h₁.get? b = some o
  acc : h₁.PlainList D #[]
  ns : ∃ m, h₁.Ns C m
  made : MadeC W env s I C D

theorem comp_start {elt iter : Expr} {ifs : List Expr} {px pos : Pos} {RR : Value → Addr → Result → Shared → Prop} {K : List V → Prop} {xval : Value} {m : Str → Option Value}
    (c : CompOk sc scope x) (S : SimW W s.heap φ σ) (R : EnvAt W env s.heap φ ρ m) (dx : Den s.heap φ xval xv) (hov : overW σ xv K)
    (k : ∀ I C D s₂ h₁ t items, Start W env s φ σ xv items I C D s₂ h₁ → K items → codeAny (model prog w) A (.compLoop (.ListComp elt [⟨.Name x px, iter, ifs, 0⟩] scope pos) 0 (.ref I) (.ref D) (compEnvC scope (clos env scope.names []) C env)) (RR (.ref D) C) { s₂ with heap := h₁, toks := t }) :
    wpAny (model prog w) A (pyIter xval) (fun it s₂ => wpAny (model prog w) A (newList []) (fun acc s₃ => wpAny (model prog w) A (newFunctionEnv scope env.globals (clos env scope.names []) [] env.qual none .none (some env)) (fun cenv s₄ =>
      codeAny (model prog w) A (.compStart (.ListComp elt [⟨.Name x px, iter, ifs, 0⟩] scope pos) 0 it acc { cenv with scope := relabel scope env }) (RR acc cenv.locals) s₄) E s₃) E s₂) E s := by
  refine it_start S dx hov fun I s₂ items dI hS2 hk2 S2 it2 q => ?_
  have hcell : ∀ y ∈ scope.names, y.2 ≠ .cell := fun y hy => by rcases c.rest y hy with q | q | q <;> rw [q] <;> decide
  refine wpAny_newObj_type (wpAny_newFunctionEnv hcell (by intro y hy; simp at hy) (fun h₁ hns₁ hsb₁ => ?_) c.kind)
  dsimp only at hns₁ hsb₁ ⊢
  generalize hH3 : s₂.heap.push { cls := .type "list", dict := none, data := .seq ([] : List Value).toArray } = H3 at hns₁ hsb₁ ⊢
  have hC : H3.objs.size = s₂.heap.objs.size + 1 := by rw [← hH3, Heap.size_push]
  have dD2 : s₂.heap.get? s₂.heap.objs.size = none := dead _
  have dC2 : s₂.heap.get? H3.objs.size = none := Heap.get?_none_of_le (by rw [hC]; exact Nat.le_succ _)
  obtain ⟨oI, vsI, eI, dIo, cI⟩ := it2.obj
  have hk4 : ∀ b o, s₂.heap.get? b = some o → h₁.get? b = some o := fun b o e => hsb₁.extBut b o (by rintro rfl; rw [dC2] at e; cases e) (Heap.get?_push_of_some _ (hH3 ▸ Heap.get?_push_of_some _ e))
  have hDC : s₂.heap.objs.size ≠ H3.objs.size := by rw [hC]; exact Nat.ne_of_lt (Nat.lt_succ_self _)
  have hacc : h₁.PlainList s₂.heap.objs.size #[] := ⟨_, hsb₁.extBut _ _ hDC (Heap.get?_push_of_some _ (hH3 ▸ Heap.get?_push_size _ rfl))⟩
  have dD : s.heap.get? s₂.heap.objs.size = none := dead_of hk2 dD2
  have dC : s.heap.get? H3.objs.size = none := dead_of hk2 dC2
  have nI : ∀ {a : Addr}, s₂.heap.get? a = none → a ≠ I := fun e q => by rw [q, eI] at e; cases e
  have loop := k I H3.objs.size s₂.heap.objs.size s₂ h₁ (s₂.toks + ([] : List (Str × Value)).length) items ⟨hS2, hk2, S2, it2, dD2, hk4, hacc, ⟨_, hns₁⟩, ⟨dI, dC, dD, h0_dead S dC, h0_dead S dD, nI dC2, hDC, nI dD2, own_alive R⟩⟩ q
  exact codeAny_compStart_list loop (it_self (s := { s₂ with heap := h₁, toks := s₂.toks + ([] : List (Str × Value)).length }) (it2.frame (own := []) (σ' := σ) (Ext.all hk4) Bare.nil List.not_mem_nil (still_refl σ xv)) loop)

theorem comp_value {elt iter : Expr} {ifs : List Expr} {px pos : Pos} {k : Nat} {te tc : T} {RR : Value → Addr → Result → Shared → Prop} {Q : V → St → Prop} {xval : Value} {m : Str → Option Value} (H : Room A N) (he : OkE W cal N scope elt te) (ht : OkT W cal N scope ifs tc)
    (c : CompOk sc scope x) (so : ScopeOk sc env) (hx : nms[k]? = some x) (S : SimW W s.heap φ σ) (R : EnvAt W env s.heap φ ρ m) (dx : Den s.heap φ xval xv)
    (ev : overW σ xv fun items => ∃ P : Nat → List V → St → Prop, items.length ≤ LIM ∧ P 0 [] σ ∧
      (∀ i v acc σ', items[i]? = some v → P i acc σ' → Ev tc cal (upd ρ k v) σ' fun c σ'' => boolW c fun b => brW b (Ev te cal (upd ρ k v) σ'' fun u σ₃ => stillP σ σ₃ xv ∧ P (i + 1) (acc ++ [u]) σ₃) (stillP σ σ'' xv ∧ P (i + 1) acc σ'')) ∧
      ∀ acc σ', P items.length acc σ' → Q (.seq false acc) σ')
    (fin : ∀ acc C s' φ' v σf, Q v σf → Same s s' → Ext [] s.heap φ s'.heap φ' → SimW W s'.heap φ' σf → (∃ m, s'.heap.Ns C m) → C ∉ φ' → W.h₀.get? C = none → s.heap.get? C = none → Den s'.heap φ' acc v → (∃ m, EnvAt W env s'.heap φ' ρ m) → RR acc C (.ok .next) s') :
    wpAny (model prog w) A (pyIter xval) (fun it s₂ => wpAny (model prog w) A (newList []) (fun acc s₃ => wpAny (model prog w) A (newFunctionEnv scope env.globals (clos env scope.names []) [] env.qual none .none (some env)) (fun cenv s₄ =>
      codeAny (model prog w) A (.compStart (.ListComp elt [⟨.Name x px, iter, ifs, 0⟩] scope pos) 0 it acc { cenv with scope := relabel scope env }) (RR acc cenv.locals) s₄) E s₃) E s₂) E s := by
  refine comp_start c S R dx ev fun I C D s₂ h₁ t items st ev => ?_
  obtain ⟨hS2, hk2, S2, it2, dD2, hk4, hacc, ⟨mc, hns⟩, M⟩ := st
  obtain ⟨P, hL, h0, hs, hq⟩ := ev
  have hz : ∀ b, zMore hi.z D b → Hid.z b ∨ b = D := fun b h => h
  have R2 := R.mono (Ext.all hk2)
  have S4 := S2.hideNew (z' := zMore hi.z D) hz dD2 hk4 (let ⟨n, e⟩ := hacc; ⟨_, e⟩)
  have R4 := R2.hideNew (z' := zMore hi.z D) hz dD2 hk4
  have it4 := it2.hideNew (z' := zMore hi.z D) hz dD2 hk4
  have T4 : @Turn (Hid.mk (zMore hi.z D)) prog w W env ρ s φ σ I C xv items { s₂ with heap := h₁, toks := t } φ σ 0 :=
    @Turn.mk (Hid.mk (zMore hi.z D)) prog w W env ρ s φ σ I C xv items { s₂ with heap := h₁, toks := t } φ σ 0 (hS2.trans ⟨rfl, rfl, rfl⟩) (Ext.all fun b o e => hk4 b o (hk2 b o e)) S4 it4 ⟨m, R4⟩ ⟨_, hns⟩ (off_dead S M.dC).1 (still_refl σ xv)
  refine @loop_value (Hid.mk (zMore hi.z D)) prog w W cal N sc scope x A env ρ s _ φ φ σ σ I C D xv items elt iter ifs px pos k te tc _ P H he ht c so hx M (Or.inr rfl) T4 hacc hL h0 hs ?_
  intro s' φ' σf out ys hP hS X S' hn hCφ hpl hlen hd hR
  have hb : ∀ b o, @Off (Hid.mk (zMore hi.z D)) φ' b → s'.heap.get? b = some o → s'.heap.get? b = some o ∧ Off φ' b := fun b o ha e => ⟨e, Off.less (fun b h => Or.inl h) ha⟩
  have c2 := @Den.conv (Hid.mk (zMore hi.z D)) hi.z s'.heap s'.heap φ' hb
  have S'' : SimW W s'.heap φ' σf := @Sim.conv (Hid.mk (zMore hi.z D)) prog w W σf _ s'.heap φ' hb S' fun a ha => @Sim.hid (Hid.mk (zMore hi.z D)) _ _ _ _ _ _ _ S' a (Or.inl ha)
  have hd' := c2.2 hd
  have hDφ := (@Sim.hid (Hid.mk (zMore hi.z D)) _ _ _ _ _ _ _ S' D (Or.inr rfl)).1
  obtain ⟨m', R'⟩ := hR
  exact fin _ _ s' φ' _ _ (hq _ _ hP) hS X S'' hn hCφ M.cC M.dC (.list hpl.isList ⟨hDφ, (off_dead S2 dD2).2⟩ (by rw [hd'.len]; exact LIM_le hlen) hd') ⟨m', @EnvAt.conv (Hid.mk (zMore hi.z D)) prog w W env ρ _ s'.heap φ' m' hb R'⟩

theorem comp_ref {elt iter : Expr} {ifs : List Expr} {px pos : Pos} {k : Nat} {te tc : T} {RR : Value → Addr → Result → Shared → Prop} {Q : V → St → Prop} {xval : Value} {m : Str → Option Value} (H : Room A N) (he : OkE W cal N scope elt te) (ht : OkT W cal N scope ifs tc)
    (c : CompOk sc scope x) (so : ScopeOk sc env) (hx : nms[k]? = some x) (S : SimW W s.heap φ σ) (R : EnvAt W env s.heap φ ρ m) (dx : Den s.heap φ xval xv)
    (ev : overW σ xv fun items => ∃ P : Nat → St → Prop, P 0 (σ ++ [.list []]) ∧
      (∀ i v σ', items[i]? = some v → P i σ' → Ev tc cal (upd ρ k v) σ' fun c σ'' => boolW c fun b => brW b (Ev te cal (upd ρ k v) σ'' fun u σ₃ => stillP (σ ++ [.list []]) σ₃ xv ∧ appendW σ₃ (.ref σ.length) u fun σ₄ => stillP (σ ++ [.list []]) σ₄ xv ∧ P (i + 1) σ₄) (stillP (σ ++ [.list []]) σ'' xv ∧ P (i + 1) σ'')) ∧
      ∀ σ', P items.length σ' → Q (.ref σ.length) σ')
    (fin : ∀ acc C s' φ' v σf, Q v σf → Same s s' → Ext [] s.heap φ s'.heap φ' → SimW W s'.heap φ' σf → (∃ m, s'.heap.Ns C m) → C ∉ φ' → W.h₀.get? C = none → s.heap.get? C = none → Den s'.heap φ' acc v → (∃ m, EnvAt W env s'.heap φ' ρ m) → RR acc C (.ok .next) s') :
    wpAny (model prog w) A (pyIter xval) (fun it s₂ => wpAny (model prog w) A (newList []) (fun acc s₃ => wpAny (model prog w) A (newFunctionEnv scope env.globals (clos env scope.names []) [] env.qual none .none (some env)) (fun cenv s₄ =>
      codeAny (model prog w) A (.compStart (.ListComp elt [⟨.Name x px, iter, ifs, 0⟩] scope pos) 0 it acc { cenv with scope := relabel scope env }) (RR acc cenv.locals) s₄) E s₃) E s₂) E s := by
  have hst := still_push (o := .list []) ev
  refine comp_start c S R dx ev fun I C D s₂ h₁ t items st ev => ?_
  obtain ⟨hS2, hk2, S2, it2, dD2, hk4, hacc, ⟨mc, hns⟩, M⟩ := st
  obtain ⟨P, h0, hs, hq⟩ := ev
  obtain ⟨S4, X4⟩ := S2.push (own := []) (o := .list []) dD2 hk4 ⟨#[], hacc, Nat.zero_le _, .nil⟩
  have T4 : Turn W env ρ s φ (σ ++ [.list []]) I C xv items { s₂ with heap := h₁, toks := t } (φ ++ [D]) (σ ++ [.list []]) 0 :=
    ⟨hS2.trans ⟨rfl, rfl, rfl⟩, (Ext.all hk2).trans X4, S4, it2.frame X4 Bare.nil List.not_mem_nil hst, ⟨m, (R.mono (Ext.all hk2)).mono X4⟩, ⟨_, hns⟩, fun hm =>
      (List.mem_append.mp hm).elim (off_dead S M.dC).1 fun h1 => M.DC (mem_one h1).symm, still_refl _ xv⟩
  exact loop_ref H he ht c so hx M (r := σ.length) (by rw [← S.len, List.getElem?_append_right (Nat.le_refl _), Nat.sub_self]; rfl) T4 h0 hs fun s' φ' σf hP hS X S' hn hCφ hr hR => fin _ _ s' φ' _ _ (hq _ hP) hS X S' hn hCφ M.cC M.dC (.ref hr) hR
end
end Mine
end

section
set_option autoImplicit false
set_option maxRecDepth 100000
namespace Mine
open PySem PySem.W PyProof.Rows

section
variable [hi : Hid]
variable {prog : Program} {w : World} {W : Wd prog w} {cal : PC} {N : Nat} {sc scope : Scope} {x : Str}
variable {A : Around} {E : Value → Shared → Prop}
variable {env : Env} {ρ : Rho} {s s' : Shared} {φ φ' : Phi} {σ σ' : St} {C : Addr} {v : V}

structure Left (W : Wd prog w) (env : Env) (ρ : Rho) (s : Shared) (φ : Phi) (v : V) (σf : St) (acc : Value) (C : Addr) (s' : Shared) (φ' : Phi) : Prop where
  same : Same s s'
  ext : Ext [] s.heap φ s'.heap φ'
  sim : SimW W s'.heap φ' σf
  ns : ∃ m, s'.heap.Ns C m
  off : C ∉ φ'
  zC : ¬ Hid.z C
  h0 : W.h₀.get? C = none
  dead : s.heap.get? C = none
  den : Den s'.heap φ' acc v
  envs : ∃ m, EnvAt W env s'.heap φ' ρ m
  own : ∀ b ∈ ownOf env, ∃ o, s.heap.get? b = some o

theorem Left.done {σf : St} {acc : Value} (L : Left W env ρ s φ v σf acc C s' φ') {h' : Heap} (hs : Heap.SameBut C s'.heap h') : Same s { s' with heap := h' } ∧ Ext [] s.heap φ h' φ' ∧ SimW W h' φ' σf ∧ Den h' φ' acc v ∧ ∃ m, EnvAt W env h' φ' ρ m := by
  have bC : Bare s'.heap [C] := fun b hb => by
    obtain ⟨mc, o, es, ep, q, d, _⟩ := L.ns
    exact .inr ⟨o, mem_one hb ▸ q, .inl ⟨_, _, d⟩⟩
  obtain ⟨S', X⟩ := L.sim.atOwn (h' := h') bC (fun b hb => by rw [mem_one hb]; exact L.h0) (fun b hb => by rw [mem_one hb]; exact L.off) (fun b hb hz => absurd (mem_one hb ▸ hz) L.zC) (fun b o hb e => (hs.2 b (fun q => hb (List.mem_singleton.mpr q))).trans e)
  obtain ⟨m, R⟩ := L.envs
  refine ⟨L.same.trans ⟨rfl, rfl, rfl⟩, L.ext.hide X fun b hb => by rw [mem_one hb]; exact L.dead, S', L.den.mono X bC, m, R.mono' X bC fun b hb hm => ?_⟩
  obtain ⟨o, e⟩ := L.own b hm
  rw [mem_one hb, L.dead] at e; cases e

theorem comp_run {elt iter : Expr} {ifs : List Expr} {px pos pos' : Pos} {k : Nat} {ti te tc : T} {mt : Bool} {use : Option (Value → Sem Unit)} {Q : V → St → Prop} {P : Value → Shared → Prop} (H : Room A N) (hit : OkE W cal N sc iter ti) (he : OkE W cal N scope elt te) (ht : OkT W cal N scope ifs tc)
    (hfs : ∀ x, foldedSetIterable iter env x = pure x) (c : CompOk sc scope x) (so : ScopeOk sc env) (hx : nms[k]? = some x) (S : SimW W s.heap φ σ) (re : EnvRel W env s.heap φ ρ) (ev : Ev (.comp mt k ti te tc) cal ρ σ Q)
    (fin : ∀ acc C s' φ' v σf, Q v σf → Left W env ρ s φ v σf acc C s' φ' → compPost (model prog w) A E use P acc C (.ok .next) s') :
    wpAny (model prog w) A (comprehension (.ListComp elt [⟨.Name x px, iter, ifs, 0⟩] scope pos) scope env pos' (newList []) false (eval iter env) use) P E s := by
  obtain ⟨m, R⟩ := re
  refine wpAny_comprehension_free rfl hfs (closureFor_eq (c.cells so R)) c.kind (fun y hy hl => by
    obtain ⟨n, kk⟩ := y; simp only at hl; subst hl; exact lookup_of_mem c.nodup hy) ?_
  refine wpV (hit A s env φ σ ρ _ _ H so ⟨m, R⟩ S ev) fun xval s₁ φ₁ xv σ₁ e1 X1 S1 D1 ev => ?_
  have R1 := R.mono X1
  have lift : ∀ acc C s' φ' v σf, Q v σf → Same s₁ s' → Ext [] s₁.heap φ₁ s'.heap φ' → SimW W s'.heap φ' σf → (∃ m, s'.heap.Ns C m) → C ∉ φ' → W.h₀.get? C = none → s₁.heap.get? C = none → Den s'.heap φ' acc v → (∃ m, EnvAt W env s'.heap φ' ρ m) → compPost (model prog w) A E use P acc C (.ok .next) s' := fun acc C s' φ' v σf q a b c d e f g h i => by
    refine fin acc C s' φ' v σf q ⟨e1.trans a, X1.trans b, c, d, e, (off_dead S1 g).2, f, ?_, h, i, own_alive R⟩
    cases q : s.heap.get? C with
    | none => rfl
    | some o =>
      by_cases hφ : C ∈ φ
      · exact absurd ((X1.pre.trans b.pre).subset hφ) e
      · rw [X1.keep C o q hφ List.not_mem_nil] at g; cases g
  cases mt with
  | false => exact comp_value (RR := fun acc C => compPost (model prog w) A E use P acc C) H he ht c so hx S1 R1 D1 ev lift
  | true => exact comp_ref (RR := fun acc C => compPost (model prog w) A E use P acc C) H he ht c so hx S1 R1 D1 ev lift

omit hi in
theorem OkE.comp {elt iter : Expr} {ifs : List Expr} {px pos : Pos} {k : Nat} {ti te tc : T} {mt : Bool} (hit : OkE W cal N sc iter ti) (he : OkE W cal N scope elt te) (ht : OkT W cal N scope ifs tc)
    (hfs : ∀ env x, foldedSetIterable iter env x = pure x) (c : CompOk sc scope x) (hx : nms[k]? = some x) : OkE W cal N sc (.ListComp elt [⟨.Name x px, iter, ifs, 0⟩] scope pos) (.comp mt k ti te tc) := by
  intro _ A s env φ σ ρ Q E R so re S ev
  show wpAny (model prog w) A (comprehension (.ListComp elt [⟨.Name x px, iter, ifs, 0⟩] scope pos) scope env iter.pos (newList []) false (eval iter env) none) _ _ _
  refine comp_run (use := none) R hit he ht (hfs env) c so hx S re ev fun acc C s' φ' v σf q L => ?_
  refine ⟨L.ns.choose, L.ns.choose_spec, fun h' hs => ?_⟩
  obtain ⟨a, b, c, d, _⟩ := L.done hs
  exact .mk φ' v σf a b c d q
end
end Mine
end

section
set_option autoImplicit false
set_option maxRecDepth 100000
namespace Mine
open PySem PySem.W PyProof.Rows

theorem Ext.via {own own₂ : List Addr} {h h' h'' : Heap} {φ φ' φ'' : Phi} (x : Ext own h φ h' φ') (y : Ext own₂ h' φ' h'' φ'') (hd : ∀ b ∈ own₂, b ∈ own ∨ h.get? b = none) (ha : ∀ b ∈ own, ∃ o, h'.get? b = some o) : Ext own h φ h'' φ'' where
  pre := x.pre.trans y.pre
  new := fun a hm => by
    rcases y.new a hm with h1 | h1
    · exact x.new a h1
    · by_cases hφ : a ∈ φ
      · exact .inl hφ
      · refine .inr ?_
        cases e : h.get? a with
        | none => rfl
        | some o =>
          by_cases ho : a ∈ own
          · obtain ⟨o', e'⟩ := ha a ho; rw [h1] at e'; cases e'
          · rw [x.keep a o e hφ ho] at h1; cases h1
  keep := fun b o e h1 h2 => by
    refine y.keep b o (x.keep b o e h1 h2) (fun h3 => ?_) fun h4 => ?_
    · rcases x.new b h3 with h5 | h5
      · exact h1 h5
      · rw [h5] at e; cases e
    · rcases hd b h4 with h5 | h5
      · exact h2 h5
      · rw [h5] at e; cases e

noncomputable def FlowOk [Hid] (h : Heap) (φ : Phi) : Fl → Flow → Prop
  | .next, .next | .brk, .brk => True
  | .ret v, .ret val => Den h φ val v
  | _, _ => False

section
variable [hi : Hid]
variable {prog : Program} {w : World} {W : Wd prog w} {cal : PC} {N : Nat} {sc : Scope}
variable {A : Around} {E : Value → Shared → Prop}
variable {env : Env} {ρ ρ' : Rho} {s s₁ s' : Shared} {φ φ₁ φ' : Phi} {σ σ' : St} {v : V}

inductive GotF (W : Wd prog w) (env : Env) (s : Shared) (φ : Phi) (Q : Fl → Rho → St → Prop) (fl : Flow) (s' : Shared) : Prop
  | mk (φ' : Phi) (f : Fl) (ρ' : Rho) (σ' : St) (same : Same s s') (ext : Ext (ownOf env) s.heap φ s'.heap φ') (sim : SimW W s'.heap φ' σ') (rel : EnvRel W env s'.heap φ' ρ') (flow : FlowOk s'.heap φ' f fl) (q : Q f ρ' σ') : GotF W env s φ Q fl s'
inductive GotA (W : Wd prog w) (env : Env) (s : Shared) (φ : Phi) (K : Rho → St → Prop) (u : Unit) (s' : Shared) : Prop
  | mk (φ' : Phi) (ρ' : Rho) (σ' : St) (same : Same s s') (ext : Ext (ownOf env) s.heap φ s'.heap φ') (sim : SimW W s'.heap φ' σ') (rel : EnvRel W env s'.heap φ' ρ') (q : K ρ' σ') : GotA W env s φ K u s'

theorem EnvRel.alive (R : EnvRel W env s.heap φ ρ) : ∀ b ∈ ownOf env, ∃ o, s.heap.get? b = some o := let ⟨_, R⟩ := R; own_alive R
theorem EnvRel.bare (R : EnvRel W env s.heap φ ρ) : Bare s.heap (ownOf env) := let ⟨_, R⟩ := R; R.bare
theorem Ext.thenOwn (x : Ext (ownOf env) s.heap φ s₁.heap φ₁) (R : EnvRel W env s₁.heap φ₁ ρ) (y : Ext (ownOf env) s₁.heap φ₁ s'.heap φ') : Ext (ownOf env) s.heap φ s'.heap φ' := x.trans' y R.alive

theorem wpF {m : Sem Flow} {Q : Fl → Rho → St → Prop} {P : Flow → Shared → Prop} (h : wpAny (model prog w) A m (GotF W env s φ Q) E s)
    (k : ∀ fl s₁ φ₁ f ρ₁ σ₁, Same s s₁ → Ext (ownOf env) s.heap φ s₁.heap φ₁ → SimW W s₁.heap φ₁ σ₁ → EnvRel W env s₁.heap φ₁ ρ₁ → FlowOk s₁.heap φ₁ f fl → Q f ρ₁ σ₁ → P fl s₁) : wpAny (model prog w) A m P E s :=
  wpAny_mono h (fun val s₁ g => g.rec fun φ₁ f ρ₁ σ₁ a b c d e q => k val s₁ φ₁ f ρ₁ σ₁ a b c d e q) fun _ _ z => z
theorem wpF' {m : Sem Flow} {Q : Fl → Rho → St → Prop} (hs : Same s s₁) (X : Ext (ownOf env) s.heap φ s₁.heap φ₁) (R : EnvRel W env s₁.heap φ₁ ρ) (h : wpAny (model prog w) A m (GotF W env s₁ φ₁ Q) E s₁) : wpAny (model prog w) A m (GotF W env s φ Q) E s₁ :=
  wpF h fun _ _ φ₂ f ρ₂ σ₂ a b c d e q => .mk φ₂ f ρ₂ σ₂ (hs.trans a) (X.thenOwn R b) c d e q
theorem wpA {m : Sem Unit} {K : Rho → St → Prop} {P : Unit → Shared → Prop} (h : wpAny (model prog w) A m (GotA W env s φ K) E s)
    (k : ∀ s₁ φ₁ ρ₁ σ₁, Same s s₁ → Ext (ownOf env) s.heap φ s₁.heap φ₁ → SimW W s₁.heap φ₁ σ₁ → EnvRel W env s₁.heap φ₁ ρ₁ → K ρ₁ σ₁ → P () s₁) : wpAny (model prog w) A m P E s :=
  wpAny_mono h (fun val s₁ g => g.rec fun φ₁ ρ₁ σ₁ a b c d q => k s₁ φ₁ ρ₁ σ₁ a b c d q) fun _ _ z => z
end

noncomputable def Ex (t : TS) : SX := @TS.rec (fun _ => SX) (fun _ => SX) (fun x e => xAssign x (Ev e)) (fun xs e => xUnpack xs (Ev e)) (fun a b c d e f => xPairIdx (Ev a) (Ev b) (Ev c) (Ev d) (Ev e) (Ev f)) (fun o i e => xSetIdx (Ev o) (Ev i) (Ev e)) (fun o k e => xSetAttr (Ev o) k (Ev e))
  (fun x o e => xAugName x o (Ev e)) (fun ob k o e => xAugAttr (Ev ob) k o (Ev e)) (fun xs it _ body => xFor xs (Ev it) body) (fun c _ _ a b => xIte (Ev c) a b) (fun e => xRet (Ev e)) (fun e => xExpr (Ev e)) xBrk xFail xNil (fun _ t s r => xCons s (tailX t r)) t
theorem tail_of {t : TSs} {r : SX} {cal : PC} {ρ : Rho} {σ : St} {Q : Fl → Rho → St → Prop} (h : tailX t r cal ρ σ Q) : r cal ρ σ Q := by
  cases t with
  | nil => exact h
  | cons a b => exact (h : Lk _).out

section
variable {prog : Program} {w : World} (W : Wd prog w) (cal : PC) (N : Nat)
noncomputable def OkS (sc : Scope) (st : Stmt) (t : TS) : Prop :=
  ∀ [Hid] (A : Around) (s : Shared) (env : Env) (φ : Phi) (σ : St) (ρ : Rho) (Q : Fl → Rho → St → Prop) (E : Value → Shared → Prop), Room A N → env.scope = sc → EnvRel W env s.heap φ ρ → SimW W s.heap φ σ → Ex t cal ρ σ Q →
    wpAny (model prog w) A (exec st env) (GotF W env s φ Q) E s
noncomputable def OkSs (sc : Scope) (sts : List Stmt) (ts : TSs) : Prop :=
  ∀ [Hid] (A : Around) (s : Shared) (env : Env) (φ : Phi) (σ : St) (ρ : Rho) (Q : Fl → Rho → St → Prop) (E : Value → Shared → Prop), Room A N → env.scope = sc → EnvRel W env s.heap φ ρ → SimW W s.heap φ σ → Exs ts cal ρ σ Q →
    wpAny (model prog w) A (execs sts env) (GotF W env s φ Q) E s
noncomputable def OkTgt (sc : Scope) (tgt : Expr) (xs : List Nat) : Prop :=
  ∀ [Hid] (A : Around) (s : Shared) (env : Env) (φ : Phi) (σ : St) (ρ : Rho) (K : Rho → Prop) (v : V) (val : Value) (E : Value → Shared → Prop), Room A N → env.scope = sc → EnvRel W env s.heap φ ρ → SimW W s.heap φ σ → Den s.heap φ val v → bindW xs v ρ K →
    wpAny (model prog w) A (assign tgt env val) (GotA W env s φ fun ρ' σ' => K ρ' ∧ σ' = σ) E s
noncomputable def OkU (sc : Scope) (e : Expr) (t : T) : Prop :=
  ∀ [Hid] (A : Around) (s : Shared) (env : Env) (φ : Phi) (σ : St) (ρ : Rho) (K : Rho → St → Prop) (E : Value → Shared → Prop) (y : Str) (i : Nat) (py : Pos), Room A N → env.scope = sc → EnvRel W env s.heap φ ρ → SimW W s.heap φ σ → Ev t cal ρ σ (fun v σ' => K (upd ρ i v) σ') →
    storable env.scope y = true → nms[i]? = some y → wpAny (model prog w) A (evalThenUse e env (assign (.Name y py) env)) (GotA W env s φ K) E s
end

section
variable {prog : Program} {w : World} {W : Wd prog w} {cal : PC} {N : Nat} {sc scope : Scope}

theorem scopeOk_of {env : Env} (h : env.scope = sc) : ScopeOk sc env := fun x => by unfold Env.kindOf; rw [h]

theorem OkSs.nil : OkSs W cal N sc [] .nil := by
  intro _ A s env φ σ ρ Q E R hs re S ev
  rw [execs_nil]
  exact wpAny_pure (.mk φ .next ρ σ (Same.refl _) (Ext.refl _ _ _) S re trivial ev)
theorem OkSs.cons {st : Stmt} {r : List Stmt} {t : TS} {ts : TSs} (h : OkS W cal N sc st t) (hr : OkSs W cal N sc r ts) : OkSs W cal N sc (st :: r) (.cons t ts) := by
  intro _ A s env φ σ ρ Q E R hs re S ev
  rw [execs_cons]
  refine wpAny_bind (wpF (h A s env φ σ ρ _ _ R hs re S ev) fun fl s₁ φ₁ f ρ₁ σ₁ e1 X1 S1 R1 F1 ev => ?_)
  cases f with
  | next =>
    cases fl with
    | next => exact wpF' e1 X1 R1 (hr A s₁ env φ₁ σ₁ ρ₁ _ _ R hs R1 S1 (tail_of ev))
    | _ => exact F1.elim
  | brk =>
    cases fl with
    | brk => exact wpAny_pure (.mk φ₁ .brk ρ₁ σ₁ e1 X1 S1 R1 F1 ev)
    | _ => exact F1.elim
  | ret v =>
    cases fl with
    | ret u => exact wpAny_pure (.mk φ₁ (.ret v) ρ₁ σ₁ e1 X1 S1 R1 F1 ev)
    | _ => exact F1.elim

theorem OkS.brk {pos} : OkS W cal N sc (.Break pos) .brk := by
  intro _ A s env φ σ ρ Q E R hs re S ev
  show wpAny _ _ (do standAt pos; pure Flow.brk) _ _ _
  exact wpAny_bind (wpAny_standAt (wpAny_pure (.mk φ .brk ρ σ (Same.refl _) (Ext.refl _ _ _) S re trivial ev)))
theorem OkS.fail {st : Stmt} : OkS W cal N sc st .fail := by
  intro _ A s env φ σ ρ Q E R hs re S ev
  exact (ev : False).elim
theorem OkS.ret {e : Expr} {t : T} {pos} (h : OkE W cal N sc e t) : OkS W cal N sc (.Return (some e) pos) (.ret t) := by
  intro _ A s env φ σ ρ Q E R hs re S ev
  rw [exec_Return_some]
  exact wpAny_bind (wpAny_standAt (wpAny_bind (wpV (h _ _ _ _ _ _ _ _ R (scopeOk_of hs) re S ev) fun val s₁ φ₁ v σ₁ e1 X1 S1 D1 ev => wpAny_pure (.mk φ₁ (.ret v) ρ σ₁ e1 X1.more S1 (re.mono X1) D1 ev))))
theorem OkS.ite {c : Expr} {a b : List Stmt} {tc : T} {ta tb : TSs} {pos} (hc : OkB W cal N sc c tc) (ha : OkSs W cal N sc a ta) (hb : OkSs W cal N sc b tb) : OkS W cal N sc (.If c a b pos) (.ite tc ta tb) := by
  intro _ A s env φ σ ρ Q E R hs re S ev
  rw [exec_If]
  refine wpAny_bind (wpAny_standAt (wpAny_bind (wpB (K := fun d σ₁ => brW d (Exs ta cal ρ σ₁ Q) (Exs tb cal ρ σ₁ Q)) (hc _ _ _ _ _ _ _ _ R (scopeOk_of hs) re S ev) fun x s₁ φ₁ σ₁ e1 X1 S1 ev => ?_)))
  have R1 := re.mono X1
  cases x with
  | true => exact wpF' e1 X1.more R1 (ha A s₁ env φ₁ σ₁ ρ _ _ R hs R1 S1 ev)
  | false => exact wpF' e1 X1.more R1 (hb A s₁ env φ₁ σ₁ ρ _ _ R hs R1 S1 ev)

theorem not_interactive [Hid] {env : Env} {h : Heap} {φ : Phi} {ρ : Rho} (re : EnvRel W env h φ ρ) : interactive env = false := by
  obtain ⟨m, R⟩ := re
  unfold interactive
  rw [R.kind]; rfl
theorem OkS.expr {e : Expr} {t : T} {pos} (hsw : ∀ env, swapsWith e none pos.line env = pure false) (h : OkE W cal N sc e t) : OkS W cal N sc (.Expr e pos) (.expr t) := by
  intro _ A s env φ σ ρ Q E R hs re S ev
  rw [exec_Expr _ _ _ (not_interactive re) (hsw env)]
  refine wpAny_bind (wpAny_standAt (wpAny_bind (wpV (h _ _ _ _ _ _ _ _ R (scopeOk_of hs) re S ev) fun val s₁ φ₁ v σ₁ e1 X1 S1 D1 ev => ?_)))
  obtain ⟨rfl, ev⟩ := ev
  cases D1
  rw [dropValue_plain (by intro a; simp)]
  exact wpAny_pure (.mk φ₁ .next ρ σ₁ e1 X1.more S1 (re.mono X1) trivial ev)

theorem OkTgt.name {x : Str} {i : Nat} {p} (hx : storable sc x = true) (hi : nms[i]? = some x) : OkTgt W N sc (.Name x p) [i] := by
  intro _ A s env φ σ ρ K v val E R hs re S D hb
  exact assign_Name (st_var re S (by rw [hs]; exact hx) hi D fun s' e1 X1 S1 R1 => .mk φ _ σ e1 X1 S1 R1 ⟨hb, rfl⟩)
theorem unpackW.e {xs : List Nat} {v : V} {K : V → V → Prop} {P : V → Prop} (h : unpackW xs v K) (k : ∀ a b, K a b → P (.seq true [a, b])) : P v := match v, h with | .seq true [a, b], h => k a b h
theorem tgt_two [Hid] {A : Around} {s : Shared} {env : Env} {φ : Phi} {σ : St} {ρ : Rho} {K : V → V → Prop} {v : V} {val : Value} {E : Value → Shared → Prop} {x y : Str} {i j : Nat} {p q k tp} {xs : List Nat} (hx : storable sc x = true) (hi : nms[i]? = some x) (hy : storable sc y = true) (hj : nms[j]? = some y)
    (R : Room A N) (hs : env.scope = sc) (re : EnvRel W env s.heap φ ρ) (S : SimW W s.heap φ σ) (D : Den s.heap φ val v) (ev : unpackW xs v K) : wpAny (model prog w) A (assign (.Tuple [.Name x p, .Name y q] k tp) env val) (GotA W env s φ fun ρ' σ' => ∃ a b, ρ' = upd (upd ρ i a) j b ∧ K a b ∧ σ' = σ) E s := by
  revert D
  refine unpackW.e (P := fun v => Den s.heap φ val v → _) ev fun a b hK D => D.tupE fun r items l ha hz d => ?_
  obtain ⟨its⟩ := items
  cases d with
  | cons d1 d =>
  cases d with
  | cons d2 d =>
  cases d
  refine wpAny_assign_Tuple R.handled l rfl rfl fun h' he => ?_
  have X : Ext [] s.heap φ h' φ := Ext.all fun b o e => he b o (by rintro rfl; rw [dead] at e; cases e) e
  have R1 := re.mono X
  have S1 : SimW W h' φ σ := S.keep fun b o e => he b o (by rintro rfl; rw [dead] at e; cases e) e
  show wpAny _ _ (assignInOrder [assign (.Name x p) env, assign (.Name y q) env] [_, _]) _ _ _
  refine assignInOrder_cons (assign_Name (st_var (s := { s with heap := h' }) R1 S1 (by rw [hs]; exact hx) hi (d1.mono X Bare.nil) fun s2 e2 X2 S2 R2 => ?_))
  refine assignInOrder_cons (assign_Name (st_var R2 S2 (by rw [hs]; exact hy) hj ((d2.mono X Bare.nil).mono X2 R1.bare) fun s3 e3 X3 S3 R3 => ?_))
  have e1 : Same s { s with heap := h' } := ⟨rfl, rfl, rfl⟩
  exact assignInOrder_nil (.mk φ _ σ (Same.trans (Same.trans e1 e2) e3) ((X.more.trans' X2 (EnvRel.alive (s := { s with heap := h' }) R1)).trans' X3 R2.alive) S3 R3 ⟨a, b, rfl, hK, rfl⟩)
theorem OkTgt.two {x y : Str} {i j : Nat} {p q k tp} (hx : storable sc x = true) (hi : nms[i]? = some x) (hy : storable sc y = true) (hj : nms[j]? = some y) : OkTgt W N sc (.Tuple [.Name x p, .Name y q] k tp) [i, j] := by
  intro _ A s env φ σ ρ K v val E R hs re S D hb
  exact wpA (tgt_two (xs := [i, j]) hx hi hy hj R hs re S D hb) fun s₁ φ₁ ρ₁ σ₁ a b c d q => let ⟨u, v, h1, h2, h3⟩ := q; .mk φ₁ ρ₁ σ₁ a b c d ⟨h1 ▸ h2, h3⟩

theorem OkS.assign {x : Str} {i : Nat} {p pos} {e : Expr} {t : T} (hx : storable sc x = true) (hi : nms[i]? = some x) (hsw : ∀ env, swapsWith e (some (.Name x p)) pos.line env = pure false) (h : OkE W cal N sc e t) : OkS W cal N sc (.Assign [.Name x p] e pos) (.assign i t) := by
  intro _ A s env φ σ ρ Q E R hs re S ev
  rw [exec_Assign_Name _ _ _ _ _ (hsw env)]
  refine wpAny_bind (wpAny_standAt (wpAny_bind (wpV (h _ _ _ _ _ _ _ _ R (scopeOk_of hs) re S ev) fun val s₁ φ₁ v σ₁ e1 X1 S1 D1 ev => ?_)))
  refine wpAny_bind (wpAny_standAt (wpAny_bind (bindName_ (st_var (re.mono X1) S1 (by rw [hs]; exact hx) hi D1 fun s2 e2 X2 S2 R2 => ?_))))
  exact wpAny_pure (.mk φ₁ .next _ σ₁ (e1.trans e2) (X1.more.trans' X2 (re.mono X1).alive) S2 R2 trivial ev)
end
end Mine
end

section
set_option autoImplicit false
set_option maxRecDepth 100000
namespace Mine
open PySem PySem.W PyProof.Rows

section
variable {prog : Program} {w : World} {W : Wd prog w} {cal : PC} {N : Nat} {sc scope : Scope}

theorem OkU.comp {elt iter : Expr} {ifs : List Expr} {x : Str} {px pos : Pos} {k : Nat} {ti te tc : T} {mt : Bool} (hit : OkE W cal N sc iter ti) (he : OkE W cal N scope elt te) (ht : OkT W cal N scope ifs tc)
    (hfs : ∀ env x, foldedSetIterable iter env x = pure x) (c : CompOk sc scope x) (hx : nms[k]? = some x) : OkU W cal N sc (.ListComp elt [⟨.Name x px, iter, ifs, 0⟩] scope pos) (.comp mt k ti te tc) := by
  intro _ A s env φ σ ρ K E y i py R hs re S ev hy hi
  show wpAny (model prog w) A (do let _ ← comprehension (.ListComp elt [⟨.Name x px, iter, ifs, 0⟩] scope pos) scope env iter.pos (newList []) false (eval iter env) (some (assign (.Name y py) env))) _ _ _
  refine wpAny_bind (wpAny_mono (comp_run (use := some (assign (.Name y py) env)) (P := fun _ s' => GotA W env s φ K () s') R hit he ht (hfs env) c (scopeOk_of hs) hx S re ev fun acc C s' φ' v σf q L => ?_) (fun _ s' g => wpAny_pure g) fun _ _ z => z)
  show wpAny (model prog w) A (assign (.Name y py) env acc) _ _ _
  obtain ⟨m, Rm⟩ := L.envs
  refine assign_Name (st_var ⟨m, Rm⟩ L.sim hy hi L.den fun s2 e2 X2 S2 R2 => ?_)
  obtain ⟨mc, hn⟩ := L.ns
  have hCo : C ∉ ownOf env := fun hm => by
    obtain ⟨o, e⟩ := L.own C hm
    rw [L.dead] at e; cases e
  have hn2 : s2.heap.Ns C mc := hn.at' fun o e => X2.keep C o e L.off hCo
  refine ⟨mc, hn2, fun h' hsb => ?_⟩
  have bC : Bare s2.heap [C] := fun b hb => by
    obtain ⟨o, es, ep, q, d, _⟩ := hn2
    exact .inr ⟨o, mem_one hb ▸ q, .inl ⟨_, _, d⟩⟩
  obtain ⟨S3, X3⟩ := S2.atOwn (h' := h') bC (fun b hb => by rw [mem_one hb]; exact L.h0) (fun b hb => by rw [mem_one hb]; exact L.off) (fun b hb hz => absurd (mem_one hb ▸ hz) L.zC) (fun b o hb e => (hsb.2 b (fun q => hb (List.mem_singleton.mpr q))).trans e)
  obtain ⟨m2, R2⟩ := R2
  have R3 := R2.mono' (h' := h') X3 bC fun b hb hm => hCo (mem_one hb ▸ hm)
  have X12 : Ext (ownOf env) s.heap φ s2.heap φ' := L.ext.more.trans' X2 (own_alive Rm)
  exact .mk φ' _ σf ((L.same.trans e2).trans ⟨rfl, rfl, rfl⟩) (X12.via X3 (fun b hb => .inr (by rw [mem_one hb]; exact L.dead)) (own_alive R2)) S3 ⟨m2, R3⟩ q

theorem OkS.assignC {x : Str} {i : Nat} {p pos} {e : Expr} {t : T} (hx : storable sc x = true) (hi : nms[i]? = some x) (hsw : ∀ env, ∃ b, swapsWith e (some (.Name x p)) pos.line env = pure b) (h : OkE W cal N sc e t) (hu : OkU W cal N sc e t) : OkS W cal N sc (.Assign [.Name x p] e pos) (.assign i t) := by
  intro _ A s env φ σ ρ Q E R hs re S ev
  obtain ⟨b, hb⟩ := hsw env
  cases b with
  | true =>
    rw [exec_Assign_Name_used _ _ _ _ hb]
    exact wpAny_bind (wpAny_standAt (wpAny_bind (wpA (hu A s env φ σ ρ (Q .next) E x i p R hs re S ev (by rw [hs]; exact hx) hi) fun s₁ φ₁ ρ₁ σ₁ a b c d q => wpAny_pure (.mk φ₁ .next ρ₁ σ₁ a b c d trivial q))))
  | false =>
    rw [exec_Assign_Name _ _ _ _ _ hb]
    refine wpAny_bind (wpAny_standAt (wpAny_bind (wpV (h _ _ _ _ _ _ _ _ R (scopeOk_of hs) re S ev) fun val s₁ φ₁ v σ₁ e1 X1 S1 D1 ev => ?_)))
    refine wpAny_bind (wpAny_standAt (wpAny_bind (bindName_ (st_var (re.mono X1) S1 (by rw [hs]; exact hx) hi D1 fun s2 e2 X2 S2 R2 => ?_))))
    exact wpAny_pure (.mk φ₁ .next _ σ₁ (e1.trans e2) (X1.more.trans' X2 (re.mono X1).alive) S2 R2 trivial ev)

theorem OkS.setIdx {o i e : Expr} {to ti te : T} {p pos} (hsw : ∀ env, swapsWith e (some (.Subscript o i p)) pos.line env = pure false) (ho : OkE W cal N sc o to) (hi : OkE W cal N sc i ti) (he : OkE W cal N sc e te) : OkS W cal N sc (.Assign [.Subscript o i p] e pos) (.setIdx to ti te) := by
  intro _ A s env φ σ ρ Q E R hs re S ev
  have so := scopeOk_of hs
  refine wpAny_Assign_Subscript (wpV (he _ _ _ _ _ _ _ _ R so re S ev) fun val s₁ φ₁ v σ₁ e1 X1 S1 D1 ev => ?_) (hsw env)
  refine wpV (ho _ _ _ _ _ _ _ _ R so (re.mono X1) S1 ev) fun oval s₂ φ₂ ov σ₂ e2 X2 S2 D2 ev => ?_
  have X := X1.trans X2
  refine wpV (hi _ _ _ _ _ _ _ _ R so (re.mono X) S2 ev) fun ival s₃ φ₃ iv σ₃ e3 X3 S3 D3 ev => ?_
  have X := X.trans X3
  exact wpU (snd_setIdx (R.cline 10) S3 (D2.mono X3 Bare.nil) D3 (D1.mono (X2.trans X3) Bare.nil) ev) fun s₄ φ₄ σ₄ e4 X4 S4 ev =>
    .mk φ₄ .next ρ σ₄ (((e1.trans e2).trans e3).trans e4) (X.trans X4).more S4 (re.mono (X.trans X4)) trivial ev

theorem OkS.setAttr {o e : Expr} {to te : T} {a : Str} {k : Nat} {p pos} (hsw : ∀ env, swapsWith e (some (.Attribute o a p)) pos.line env = pure false) (hk : attrCode a = some k) (ho : OkE W cal N sc o to) (he : OkE W cal N sc e te) : OkS W cal N sc (.Assign [.Attribute o a p] e pos) (.setAttr to k te) := by
  intro _ A s env φ σ ρ Q E R hs re S ev
  have so := scopeOk_of hs
  refine plainObj_wpAny_Assign_Attribute (wpV (he _ _ _ _ _ _ _ _ R so re S ev) fun val s₁ φ₁ v σ₁ e1 X1 S1 D1 ev => ?_) (hsw env)
  refine wpV (ho _ _ _ _ _ _ _ _ R so (re.mono X1) S1 ev) fun oval s₂ φ₂ ov σ₂ e2 X2 S2 D2 ev => ?_
  have X := X1.trans X2
  exact wpU (snd_setAttr hk S2 D2 (D1.mono X2 Bare.nil) ev) fun s₄ φ₄ σ₄ e4 X4 S4 ev => .mk φ₄ .next ρ σ₄ ((e1.trans e2).trans e4) (X.trans X4).more S4 (re.mono (X.trans X4)) trivial ev

theorem snd_inplace [Hid] {A : Around} {s : Shared} {φ : Phi} {σ : St} {E : Value → Shared → Prop} {Q : V → St → Prop} {op : Operator} {o : BO} (ho : compOp op = some o) (ha : op = .Add ∨ op = .Sub) {x y : Int} {a b : Value} (S : SimW W s.heap φ σ) (dx : Den s.heap φ a (.int x)) (dy : Den s.heap φ b (.int y)) (ev : binW o (.int x) (.int y) fun v => Q v σ) :
    wpAny (model prog w) A (inplaceOp op a b) (GotQ W s φ Q) E s := by
  refine dx.intE fun t => dy.intE fun u => ?_
  rcases ha with rfl | rfl <;> cases ho
  · exact P.iadd_int (.tok S (.int _ _) ev)
  · exact P.isub_int (.tok S (.int _ _) ev)

theorem OkS.augName {x : Str} {i : Nat} {p pos} {op : Operator} {o : BO} {e : Expr} {t : T} (hx : storable sc x = true) (hi : nms[i]? = some x) (ho : compOp op = some o) (ha : op = .Add ∨ op = .Sub) (h : OkE W cal N sc e t) : OkS W cal N sc (.AugAssign (.Name x p) op e pos) (.augName i o t) := by
  intro _ A s env φ σ ρ Q E R hs re S ev
  refine varW.e ev fun old h0 ev => ?_
  have so := scopeOk_of hs
  have hv : isVar sc x = true := by
    unfold storable at hx; unfold isVar
    split at hx <;> rename_i q <;> first | (rw [q]) | cases hx
  rw [exec_AugAssign_Name]
  refine wpAny_bind (wpAny_standAt (wpAny_bind (ld_var re so hv hi h0 fun oval D0 => ?_)))
  revert D0
  refine intW.e (P := fun v => Den _ _ oval v → _) ev fun a ev D0 => ?_
  refine wpAny_bind (wpAny_holding (wpV (h _ _ _ _ _ _ _ _ R so re S ev) fun val s₁ φ₁ v σ₁ e1 X1 S1 D1 ev => ?_))
  revert D1
  refine intW.e (P := fun v => Den _ _ val v → _) ev fun b ev D1 => ?_
  refine wpAny_bind (wpAny_standAt (wpAny_bind (wpAny_operate' (wpV (snd_inplace (Q := fun u σ₁ => Q .next (upd ρ i u) σ₁) ho ha S1 (D0.mono X1 Bare.nil) D1 ev) fun nv s₂ φ₂ u σ₂ e2 X2 S2 D2 ev => ?_))))
  have X := X1.trans X2
  refine wpAny_bind (wpAny_standAt (wpAny_bind (bindName_ (st_var (re.mono X) S2 (by rw [hs]; exact hx) hi D2 fun s3 e3 X3 S3 R3 => ?_))))
  exact wpAny_pure (.mk φ₂ .next _ σ₂ ((e1.trans e2).trans e3) (X.more.trans' X3 (re.mono X).alive) S3 R3 trivial ev)

theorem OkS.augAttr {ob e : Expr} {to t : T} {a : Str} {k : Nat} {p pos} {op : Operator} {o : BO} (hk : attrCode a = some k) (hob : OkE W cal N sc ob to) (ho : compOp op = some o) (ha : op = .Add ∨ op = .Sub) (h : OkE W cal N sc e t) : OkS W cal N sc (.AugAssign (.Attribute ob a p) op e pos) (.augAttr to k o t) := by
  intro _ A s env φ σ ρ Q E R hs re S ev
  have so := scopeOk_of hs
  show wpAny (model prog w) A (do
    standAt pos
    let ov ← eval ob env
    let new ← holding [ov] do
      standAt p.atName
      let old ← getAttr ov a true
      let v ← holding [old] (eval e env)
      standAt pos
      operate [old, v] (inplaceOp op old v)
    standAt p.atName
    holding [new, ov] (PySem.setAttr ov a new)
    release [new, ov] []
    pure Flow.next) _ _ _
  refine wpAny_bind (wpAny_standAt (wpAny_bind (wpV (hob _ _ _ _ _ _ _ _ R so re S ev) fun oval s₀ φ₀ ov σ₀ e0 X0 S0 D0 ev => ?_)))
  refine wpAny_bind (wpAny_holding (wpAny_bind (wpAny_standAt (wpAny_bind (wpV (snd_attr (Q := fun old σ₀ => intW old fun x => Ev t cal ρ σ₀ fun v σ₁ => intW v fun y => binW o (.int x) (.int y) fun u => setAttrW σ₁ ov k u fun σ₂ => Q .next ρ σ₂) hk S0 D0 ev) fun oldv s₁ φ₁ old σ₁ e1 X1 S1 D1 ev => ?_)))))
  revert D1
  refine intW.e (P := fun v => Den _ _ oldv v → _) ev fun x ev D1 => ?_
  have X := X0.trans X1
  refine wpAny_bind (wpAny_holding (wpV (h _ _ _ _ _ _ _ _ R so (re.mono X) S1 ev) fun val s₂ φ₂ v σ₂ e2 X2 S2 D2 ev => ?_))
  revert D2
  refine intW.e (P := fun v => Den _ _ val v → _) ev fun y ev D2 => ?_
  refine wpAny_bind (wpAny_standAt (wpAny_operate' (wpV (snd_inplace (Q := fun u σ₁ => setAttrW σ₁ ov k u fun σ₂ => Q .next ρ σ₂) ho ha S2 (D1.mono X2 Bare.nil) D2 ev) fun nv s₃ φ₃ u σ₃ e3 X3 S3 D3 ev => ?_)))
  refine wpAny_bind (wpAny_standAt (wpAny_bind (wpAny_holding (wpU (snd_setAttr hk S3 (D0.mono (X1.trans (X2.trans X3)) Bare.nil) D3 ev) fun s₄ φ₄ σ₄ e4 X4 S4 ev => ?_))))
  have X := X.trans (X2.trans (X3.trans X4))
  exact wpAny_bind (wpAny_release' (wpAny_pure (.mk φ₄ .next ρ σ₄ ((((e0.trans e1).trans e2).trans e3).trans e4) X.more S4 (re.mono X) trivial ev)))
end
end Mine
end

section
set_option autoImplicit false
set_option maxRecDepth 100000
namespace Mine
open PySem PySem.W PyProof.Rows

theorem swapped_two {x y : Str} {p q tp : Pos} {k : Nat} {e : Expr} {env : Env} (hne : x ≠ y) (hb : badTuple e = false) : ∃ r, swappedStores [.Tuple [.Name x p, .Name y q] k tp] e env = pure r ∧ (r = none ∨ r = some [x, y]) := by
  unfold swappedStores
  cases e with
  | Tuple vs kk pp =>
    dsimp only
    split
    · exact ⟨none, rfl, .inl rfl⟩
    · split
      · exact ⟨none, rfl, .inl rfl⟩
      · generalize hn : List.filterMap _ [Expr.Name x p, Expr.Name y q] = names
        have hnames : names = [x, y] ∨ names.length ≠ 2 := by
          rw [← hn]
          by_cases hx : (env.kindOf x == some NameKind.local && p.line == (Option.map (fun x => x.pos.line) [Expr.Name x p, Expr.Name y q].head?).getD 0) = true <;>
          by_cases hy : (env.kindOf y == some NameKind.local && q.line == (Option.map (fun x => x.pos.line) [Expr.Name x p, Expr.Name y q].head?).getD 0) = true
          · left; simp only [List.filterMap_cons, List.filterMap_nil, if_pos hx, if_pos hy]
          · right; simp only [List.filterMap_cons, List.filterMap_nil, if_pos hx, if_neg hy]; simp
          · right; simp only [List.filterMap_cons, List.filterMap_nil, if_neg hx, if_pos hy]; simp
          · right; simp only [List.filterMap_cons, List.filterMap_nil, if_neg hx, if_neg hy]; simp
        split
        · exact ⟨none, rfl, .inl rfl⟩
        · rename_i hlen
          have hl2 : names.length = 2 := by
            cases hh : names.length != [Expr.Name x p, Expr.Name y q].length with
            | true => rw [hh, Bool.true_or] at hlen; exact absurd rfl hlen
            | false => simpa using hh
          rcases hnames with rfl | h
          · split
            · exact ⟨none, rfl, .inl rfl⟩
            · rename_i hf
              split
              · rename_i hc
                simp only [badTuple, hc, Bool.true_and] at hb
                simp at hb; exact absurd (by simpa using hb) hf
              · exact ⟨_, rfl, .inr rfl⟩
          · exact absurd hl2 h
  | _ => exact ⟨none, rfl, .inl rfl⟩

section
variable {prog : Program} {w : World} {W : Wd prog w} {cal : PC} {N : Nat} {sc scope : Scope}

theorem upd_comm (ρ : Rho) {i j : Nat} (h : i ≠ j) (u v : V) : upd (upd ρ i u) j v = upd (upd ρ j v) i u := by
  funext k
  by_cases h1 : k = i
  · subst h1; rw [upd_same, upd_ne h, upd_same]
  · rw [upd_ne h1]
    by_cases h2 : k = j
    · subst h2; rw [upd_same, upd_same]
    · rw [upd_ne h2, upd_ne h2, upd_ne h1]

theorem OkS.unpack {x y : Str} {i j : Nat} {p q k tp pos} {e : Expr} {t : T} (hx : storable sc x = true) (hi : nms[i]? = some x) (hy : storable sc y = true) (hj : nms[j]? = some y) (hne : i ≠ j) (hb : badTuple e = false) (hsw : ∀ env, swapsWithSole [.Tuple [.Name x p, .Name y q] k tp] e pos.line env = pure false) (h : OkE W cal N sc e t) :
    OkS W cal N sc (.Assign [.Tuple [.Name x p, .Name y q] k tp] e pos) (.unpack [i, j] t) := by
  intro _ A s env φ σ ρ Q E R hs re S ev
  have hxy : x ≠ y := by rintro rfl; exact hne (nms_inj hi hj)
  obtain ⟨r, hr, hr'⟩ := swapped_two (p := p) (q := q) (tp := tp) (k := k) (e := e) (env := env) hxy hb
  rcases hr' with rfl | rfl
  · refine Assign_Tuple (wpV (h _ _ _ _ _ _ _ _ R (scopeOk_of hs) re S ev) fun val s₁ φ₁ v σ₁ e1 X1 S1 D1 ev => ?_) (hsw env) hr
    refine wpA (tgt_two (xs := [i, j]) hx hi hy hj R hs (re.mono X1) S1 D1 ev) fun s₂ φ₂ ρ₂ σ₂ a b c d q => ?_
    obtain ⟨u, v, rfl, q, rfl⟩ := q
    exact .mk φ₂ .next _ _ (e1.trans a) (X1.more.trans' b (re.mono X1).alive) c d trivial q
  · refine Assign_Tuple_swapped (wpV (h _ _ _ _ _ _ _ _ R (scopeOk_of hs) re S ev) fun val s₁ φ₁ v σ₁ e1 X1 S1 D1 ev => ?_) (hsw env) hr
    have re1 := re.mono X1
    revert D1
    refine unpackW.e (xs := [i, j]) (P := fun v => Den _ _ val v → _) ev fun u u' ev D1 => D1.tupE fun ta items l ha hz d => ?_
    obtain ⟨its⟩ := items
    cases d with
    | @cons v1 _ _ _ d1 d =>
    cases d with
    | @cons v2 _ _ _ d2 d =>
    cases d
    show wpAny _ _ (unpackItems (.ref ta) 2 none) _ _ _
    refine unpackItems_tuple (items := ⟨[v1, v2]⟩) R.handled l fun h' he => ?_
    have X : Ext [] s₁.heap φ₁ h' φ₁ := Ext.all fun b o e => he b o (by rintro rfl; rw [dead] at e; cases e) e
    have R1 := re1.mono X
    have S2 : SimW W h' φ₁ σ₁ := S1.keep fun b o e => he b o (by rintro rfl; rw [dead] at e; cases e) e
    show wpAny _ _ (assignInOrder [bindName env y, bindName env x] [_, _]) _ _ _
    refine assignInOrder_cons (bindName_ (st_var (s := { s₁ with heap := h' }) R1 S2 (by rw [hs]; exact hy) hj (d2.mono X Bare.nil) fun s2 e2 X2 S2 R2 => ?_))
    refine assignInOrder_cons (bindName_ (st_var R2 S2 (by rw [hs]; exact hx) hi ((d1.mono X Bare.nil).mono X2 R1.bare) fun s3 e3 X3 S3 R3 => ?_))
    have e0 : Same s₁ { s₁ with heap := h' } := ⟨rfl, rfl, rfl⟩
    exact assignInOrder_nil (.mk φ₁ .next _ σ₁ (Same.trans e1 (Same.trans (Same.trans e0 e2) e3)) (((X1.trans X).more.trans' X2 (EnvRel.alive (s := { s₁ with heap := h' }) R1)).trans' X3 R2.alive) S3 R3 trivial (upd_comm ρ hne u u' ▸ ev))

theorem set_at [Hid] {A : Around} {s : Shared} {env : Env} {φ : Phi} {σ : St} {ρ : Rho} {E : Value → Shared → Prop} {K : St → Prop} {o i : Expr} {to ti : T} {p : Pos} {val : Value} {v : V} (ho : OkE W cal N sc o to) (hi : OkE W cal N sc i ti) (R : Room A N) (so : ScopeOk sc env) (re : EnvRel W env s.heap φ ρ) (S : SimW W s.heap φ σ) (d : Den s.heap φ val v)
    (ev : Ev to cal ρ σ fun x σ₁ => Ev ti cal ρ σ₁ fun k σ₂ => setIdxW σ₂ x k v K) : wpAny (model prog w) A (PySem.assign (.Subscript o i p) env val) (GotU W s φ K) E s := by
  rw [assign_Subscript]
  refine wpAny_bind (wpAny_holding (wpV (ho _ _ _ _ _ _ _ _ R so re S ev) fun ov s1 φ1 x σ1 e1 X1 S1 D1 ev => ?_))
  refine wpAny_bind (wpAny_holding (wpV (hi _ _ _ _ _ _ _ _ R so (re.mono X1) S1 ev) fun iv s2 φ2 y σ2 e2 X2 S2 D2 ev => ?_))
  have X := X1.trans X2
  refine wpAny_bind (wpAny_standAt (wpAny_bind (wpAny_holding (wpU (snd_setIdx (R.cline 10) S2 (D1.mono X2 Bare.nil) D2 (d.mono X Bare.nil) ev) fun s3 φ3 σ3 e3 X3 S3 ev => ?_))))
  exact wpAny_release' (.mk φ3 σ3 ((e1.trans e2).trans e3) (X.trans X3) S3 ev)

theorem OkS.pairIdx {o₁ i₁ o₂ i₂ a b : Expr} {to₁ ti₁ to₂ ti₂ ta tb : T} {p q k tp k' tp' pos} (ho₁ : OkE W cal N sc o₁ to₁) (hi₁ : OkE W cal N sc i₁ ti₁) (ho₂ : OkE W cal N sc o₂ to₂) (hi₂ : OkE W cal N sc i₂ ti₂) (ha : OkE W cal N sc a ta) (hb : OkE W cal N sc b tb)
    (ha' : ∀ env r, starEach (a :: r) env = (false, eval a env) :: starEach r env) (hb' : ∀ env r, starEach (b :: r) env = (false, eval b env) :: starEach r env) (hsw : ∀ env, swappedStores [.Tuple [.Subscript o₁ i₁ p, .Subscript o₂ i₂ q] k tp] (.Tuple [a, b] k' tp') env = pure none) :
    OkS W cal N sc (.Assign [.Tuple [.Subscript o₁ i₁ p, .Subscript o₂ i₂ q] k tp] (.Tuple [a, b] k' tp') pos) (.pairIdx to₁ ti₁ to₂ ti₂ ta tb) := by
  intro _ A s env φ σ ρ Q E R hs re S ev
  have so := scopeOk_of hs
  have hL : OkL W cal N sc [a, b] (.cons ta (.cons tb .nil)) := .cons (fun env => ha' env _) ha (.cons (fun env => hb' env _) hb .nil)
  refine Assign_Tuple (wpAny_Tuple_spliced (wpL (hL.2 _ _ _ _ _ _ (fun vs σ₂ => twoW vs fun va vb => Ev to₁ cal ρ σ₂ fun x1 σ₃ => Ev ti₁ cal ρ σ₃ fun k1 σ₄ => setIdxW σ₄ x1 k1 va fun σ₅ => Ev to₂ cal ρ σ₅ fun x2 σ₆ => Ev ti₂ cal ρ σ₆ fun k2 σ₇ => setIdxW σ₇ x2 k2 vb fun σ₈ => Q .next ρ σ₈) _ _ R so re S ev) fun vals s₀ φ₁ vs σ₁ e1 X1 S1 D1 ev => ?_)) rfl (hsw env)
  revert ev
  refine fun ev => twoW.e ev D1 fun v1 v2 va vb d1 d2 ev => ⟨(by decide : 2 ≤ sizeLine), ?_⟩
  have hk0 := keep_push (h := s₀.heap) { cls := .type "tuple", data := .seq [v1, v2].toArray }
  refine wpAny_assign_Tuple R.handled ⟨_, Heap.get?_push_size _ rfl, rfl, 0, rfl⟩ rfl rfl fun h' he => ?_
  have hk : ∀ b o, s₀.heap.get? b = some o → h'.get? b = some o := fun b o e => he b o (fun hb => by have := hk0 b o e; rw [hb] at this; exact nomatch (dead _).symm.trans this) (hk0 b o e)
  have X : Ext [] s₀.heap φ₁ h' φ₁ := Ext.all hk
  have S2 : SimW W h' φ₁ σ₁ := S1.keep hk
  have re1 := re.mono X1
  have e0 : Same s₀ { s₀ with heap := h' } := ⟨rfl, rfl, rfl⟩
  show wpAny _ _ (assignInOrder [PySem.assign (.Subscript o₁ i₁ p) env, PySem.assign (.Subscript o₂ i₂ q) env] [_, _]) _ _ _
  refine assignInOrder_cons (wpU (set_at (s := { s₀ with heap := h' }) ho₁ hi₁ R so (re1.mono X) S2 (d1.mono X Bare.nil) ev) fun s5 φ5 σ5 e5 X5 S5 ev => ?_)
  have X' := X.trans X5
  refine assignInOrder_cons (wpU (set_at ho₂ hi₂ R so (re1.mono X') S5 (d2.mono X' Bare.nil) ev) fun s8 φ8 σ8 e8 X8 S8 ev => ?_)
  have XAll := X1.trans (X'.trans X8)
  exact assignInOrder_nil (.mk φ8 .next ρ σ8 (e1.trans (Same.trans e0 (Same.trans e5 e8))) XAll.more S8 (re.mono XAll) trivial ev)
end
end Mine
end

section
set_option autoImplicit false
set_option maxRecDepth 100000
namespace Mine
open PySem PySem.W PyProof.Rows

section
variable [hi : Hid]
variable {prog : Program} {w : World} {W : Wd prog w} {cal : PC} {N : Nat} {sc : Scope}
variable {A : Around} {E : Value → Shared → Prop}
variable {env : Env} {ρ ρ' : Rho} {s s₁ s' : Shared} {φ φ₁ φ' : Phi} {σ σ' : St} {v : V} {I : Addr} {xv : V} {items : List V} {i : Nat}

theorem letOwned_it {tgt : Expr} {val : Value} {Q : Unit → Shared → Prop} (it : ItAt W s.heap φ σ I xv items i) (k : Q () s) : wpAny (model prog w) A (letOwnedTupleGo tgt (.ref I) val) Q E s := by
  have go : ∀ (T : String) (vs : Array Value) (a : Addr), (∃ o, s.heap.get? I = some o ∧ o.cls = .type T ∧ o.data = .fields vs) → (["enumerate", "zip", "dict_itemiterator", "dict_reverseitemiterator", "odict_iterator", "itertools.zip_longest", "itertools.pairwise"].contains T) = false →
      wpAny (model prog w) A (do
        let o ← load I
        match o.cls, o.data with
        | .type n, .fields vs =>
          if ["enumerate", "zip", "dict_itemiterator", "dict_reverseitemiterator", "odict_iterator", "itertools.zip_longest", "itertools.pairwise"].contains n && vs[0]? == some (rawInt a) then
            rule "for.unpacks-the-owned-tuple"
            updateField I 0 .none
        | _, _ => pure ()) Q E s := by
    rintro T vs a ⟨o, eo, ec, ed⟩ hT
    refine wpAny_bind (wpAny_load eo ?_)
    rw [ec, ed]
    dsimp only
    rw [hT, Bool.false_and, if_neg Bool.false_ne_true]
    exact wpAny_pure k
  have any : ∀ a : Addr, wpAny (model prog w) A (do
        let o ← load I
        match o.cls, o.data with
        | .type n, .fields vs =>
          if ["enumerate", "zip", "dict_itemiterator", "dict_reverseitemiterator", "odict_iterator", "itertools.zip_longest", "itertools.pairwise"].contains n && vs[0]? == some (rawInt a) then
            rule "for.unpacks-the-owned-tuple"
            updateField I 0 .none
        | _, _ => pure ()) Q E s := fun a => by
    rcases it.at_ with ⟨ax, its, ⟨o, e1, e2, e3⟩, _⟩ | ⟨ax, its, ⟨o, e1, e2, e3⟩, _⟩ | ⟨ax, r, rfl, ⟨o, e1, e2, e3⟩, _⟩ | ⟨lo, n, hx, hxs, hi, hit⟩
    · exact go _ _ a ⟨o, e1, e2, e3⟩ (by decide)
    · exact go _ _ a ⟨o, e1, e2, e3⟩ (by decide)
    · exact go _ _ a ⟨o, e1, e2, e3⟩ (by decide)
    · exact go _ _ a ⟨_, hit, rfl, rfl⟩ (by decide)
  unfold letOwnedTupleGo
  cases tgt <;> first
    | exact wpAny_pure k
    | (cases val <;> first
        | exact wpAny_pure k
        | exact any _)

structure Lp (W : Wd prog w) (env : Env) (s₁ : Shared) (φ₁ : Phi) (σ₁ : St) (I : Addr) (xv : V) (items : List V) (s : Shared) (φ : Phi) (σ : St) (ρ : Rho) (i : Nat) : Prop where
  same : Same s₁ s
  ext : Ext (ownOf env) s₁.heap φ₁ s.heap φ
  sim : SimW W s.heap φ σ
  it : ItAt W s.heap φ σ I xv items i
  env : EnvRel W env s.heap φ ρ
  still : stillP σ₁ σ xv

theorem Lp.go {σ₁ : St} (T : Lp W env s₁ φ₁ σ₁ I xv items s φ σ ρ i) {own : List Addr} (hown : ∀ b ∈ own, b ∈ ownOf env) (hS : Same s s') (X : Ext own s.heap φ s'.heap φ') (S' : SimW W s'.heap φ' σ') (R' : EnvRel W env s'.heap φ' ρ') (hst : stillP σ₁ σ' xv) : Lp W env s₁ φ₁ σ₁ I xv items s' φ' σ' ρ' i := by
  have X' : Ext (ownOf env) s.heap φ s'.heap φ' := ⟨X.pre, X.new, fun b o e h1 h2 => X.keep b o e h1 fun q => h2 (hown b q)⟩
  obtain ⟨m, Rm⟩ := T.env
  exact ⟨T.same.trans hS, T.ext.trans' X' (own_alive Rm), S', T.it.frame X' Rm.bare (T.it.notEnv Rm) (still_of T.still hst), R', hst⟩

theorem loop_for {tgt : Expr} {xs : List Nat} {body : List Stmt} {tb : TSs} {σ₁ : St} {Q : Fl → Rho → St → Prop} (H : Room A N) (hs : env.scope = sc) (ht : OkTgt W N sc tgt xs) (hb : OkSs W cal N sc body tb) (dI : s₁.heap.get? I = none)
    (T₀ : Lp W env s₁ φ₁ σ₁ I xv items s φ σ ρ 0) (ev : LoopW cal xs items (Exs tb) xv ρ σ₁ Q) (hσ : σ = σ₁) {EE : Value → Shared → Prop} :
    codeAny (model prog w) A (.forLoop tgt (.ref I) body [] env) (fun r s' => match r with | .ok fl => GotF W env s₁ φ₁ Q fl s' | .error e => EE e s') s := by
  obtain ⟨P, h0, hst, hq⟩ := ev
  subst hσ
  refine codeAny_forLoop_any (fun n s' => ∃ i φ' σ' ρ₂, n + i = items.length + 1 ∧ i ≤ items.length ∧ Lp W env s₁ φ₁ σ I xv items s' φ' σ' ρ₂ i ∧ P i ρ₂ σ') ?_ (items.length + 1) ⟨0, φ, σ, ρ, rfl, Nat.zero_le _, T₀, h0⟩
  rintro n s' ⟨i, φ', σ', ρ₂, hn, hi, T, hP⟩
  have hin : items.length - i < n := by omega
  have hnx : items.length - i + (i + 1) = items.length + 1 := by omega
  have bI := T.it.bare
  obtain ⟨m, Rm⟩ := T.env
  have notI : ∀ b ∈ [I], b ∉ ownOf env := fun b hb hm => T.it.notEnv Rm (mem_one hb ▸ hm)
  by_cases hlt : i < items.length
  · have hv : items[i]? = some items[i] := List.getElem?_eq_getElem hlt
    refine it_next T.sim T.it hv fun val s2 oi S2 it2 D2 => ?_
    have R2 : EnvRel W env s2.heap φ' ρ₂ := ⟨m, Rm.mono' oi.ext bI notI⟩
    have T2 : Lp W env s₁ φ₁ σ I xv items s2 φ' σ' ρ₂ (i + 1) := ⟨T.same.trans oi.same, T.ext.via oi.ext (fun b hb => .inr (by rw [mem_one hb]; exact dI)) (own_alive Rm), S2, it2, R2, T.still⟩
    refine letOwned_it it2 ?_
    refine wpA (ht A s2 env φ' σ' ρ₂ _ _ val _ H hs R2 S2 D2 (hst i _ ρ₂ σ' hv hP)) fun s3 φ3 ρ3 σ3 e3 X3 S3 R3 ev => ?_
    obtain ⟨ev, rfl⟩ := ev
    have T3 := T2.go (fun _ h => h) e3 X3 S3 R3 T2.still
    refine wpF (hb A s3 env φ3 σ3 ρ3 _ _ H hs R3 S3 ev) fun fl s4 φ4 f ρ4 σ4 e4 X4 S4 R4 F4 ev => ?_
    have X14 : Ext (ownOf env) s₁.heap φ₁ s4.heap φ4 := T3.ext.thenOwn R3 X4
    cases f with
    | next =>
      cases fl with
      | next => exact ⟨items.length - i, hin, i + 1, φ4, σ4, ρ4, hnx, hlt, T3.go (fun _ h => h) e4 X4 S4 R4 ev.1, ev.2⟩
      | _ => exact F4.elim
    | brk =>
      cases fl with
      | brk => exact .mk φ4 .next ρ4 σ4 (T3.same.trans e4) X14 S4 R4 trivial ev
      | _ => exact F4.elim
    | ret u =>
      cases fl with
      | ret u' => exact .mk φ4 (.ret u) ρ4 σ4 (T3.same.trans e4) X14 S4 R4 F4 ev
      | _ => exact F4.elim
  · obtain rfl : i = items.length := Nat.le_antisymm hi (Nat.le_of_not_lt hlt)
    refine it_end H.handled T.sim T.it (Nat.le_refl _) fun s2 oi S2 => ?_
    rw [execs_nil]
    exact wpAny_pure (.mk φ' .next ρ₂ σ' (T.same.trans oi.same) (T.ext.via oi.ext (fun b hb => .inr (by rw [mem_one hb]; exact dI)) (own_alive Rm)) S2 ⟨m, Rm.mono' oi.ext bI notI⟩ trivial (hq ρ₂ σ' hP))
end

section
variable {prog : Program} {w : World} {W : Wd prog w} {cal : PC} {N : Nat} {sc : Scope}
theorem OkS.forin {tgt iter : Expr} {xs : List Nat} {body : List Stmt} {ti : T} {tb : TSs} {pos} (hfs : ∀ env x, foldedSetIterable iter env x = pure x) (ht : OkTgt W N sc tgt xs) (hi : OkE W cal N sc iter ti) (hb : OkSs W cal N sc body tb) : OkS W cal N sc (.For tgt iter body [] pos) (.forin xs ti tb) := by
  intro _ A s env φ σ ρ Q E R hs re S ev
  refine wpAny_For (wpV (hi _ _ _ _ _ _ _ _ R (scopeOk_of hs) re S ev) fun val s₁ φ₁ xv σ₁ e1 X1 S1 D1 ev => ?_) (hfs env)
  have re1 := re.mono X1
  refine it_start S1 D1 ev fun I s2 items dI e2 hk S2 it2 ev => ?_
  have T : Lp W env s₁ φ₁ σ₁ I xv items s2 φ₁ σ₁ ρ 0 := ⟨e2, Ext.all hk, S2, it2, re1.mono (Ext.all hk), still_refl _ _⟩
  refine codeAny_mono (loop_for (EE := cameBackBy (model prog w) A env E) R hs ht hb dI T ev rfl) fun r s3 g => ?_
  cases r with
  | ok fl =>
    obtain ⟨φ', f, ρ', σ', a, b, c, d, e, q⟩ := g
    exact .mk φ' f ρ' σ' (e1.trans a) (X1.more.thenOwn re1 b) c d e q
  | error e => exact g
end
end Mine
end

section
set_option autoImplicit false
set_option maxRecDepth 100000
namespace Mine
open PySem PySem.W PyProof.Rows


section
variable {prog : Program} {w : World} {A : Around} {E : Value → Shared → Prop} {s : Shared}

theorem keys_start {d : Addr} {o : Obj} {es : Array DictEntry} {ep : Nat} {Q : Value → Shared → Prop} (hd : (d == sysModules) = false) (ho : s.heap.get? d = some o) (hc : o.cls = .type "dict") (hdat : o.data = .dict es ep)
    (hQ : Q (.ref s.heap.objs.size) { s with heap := s.heap.push { cls := .type "dict_keyiterator", data := .fields #[.ref d, .int 0 0, .int es.size 0, .int ep 0] } }) :
    wpAny (model prog w) A (pyIter (.ref d)) Q E s := by
  have hT : s.TypeIs (.ref d) "dict" := ⟨o, ho, hc⟩
  refine wpAny_pyIter_slot hT PySem.F.slot_dict_iter (wpAny_call_entry PySem.F.slot_dict_iter hT PySem.F.entry_dict_iter ?_ (PySem.F.args_dict_iter_1 _))
  unfold Builtin.«dict.__iter__»
  refine wpAny_bind ?_
  unfold Builtin.Dict.dictSlotNone
  refine wpAny_bind (wpAny_notOrdered_dict hT ?_)
  show wpAny _ _ (pure (Value.ref d)) _ _ s
  refine wpAny_pure ?_
  show wpAny _ _ (Builtin.Dict.showsAll d >>= _) _ _ s
  unfold Builtin.Dict.showsAll
  rw [if_neg (by rw [hd]; exact Bool.false_ne_true)]
  refine wpAny_bind (wpAny_pure (wpAny_bind (wpAny_dictEntries ho hdat (wpAny_bind (wpAny_dictEpoch ho hdat ?_)))))
  refine wpAny_bind (wpAny_newObj_type (wpAny_pure ⟨_, rfl, "dict_keyiterator", _, ⟨_, Heap.get?_push_size _ rfl, rfl⟩, PySem.F.slot_dict_keyiterator_next.lookup, ?_⟩))
  simpa [rawInt] using hQ

theorem keys_next {it d : Addr} {o : Obj} {es : Array DictEntry} {i ep : Nat} {e : DictEntry} {Q : Option Value → Shared → Prop} (hit : s.heap.IsKeyIter it d i es.size ep) (hod : s.heap.get? d = some o) (hdd : o.data = .dict es ep) (hx : es[i]? = some e)
    (hQ : ∀ h', h'.IsKeyIter it d (i + 1) es.size ep → Heap.SameBut it s.heap h' → Q (some e.key) { s with heap := h' }) : wpAny (model prog w) A (pyNext (.ref it)) Q E s := by
  obtain ⟨oi, ho, hc, hd⟩ := id hit
  unfold pyNext
  refine wpAny_bind (wpAny_attempt (wpAny_callSpecial?_slot (name := Str.ofString "__next__") hit.typeIs PySem.F.slot_dict_keyiterator_next
    (wpAny_call_entry PySem.F.slot_dict_keyiterator_next hit.typeIs PySem.F.entry_dict_keyiterator_next ?_ (PySem.F.args_dict_keyiterator_next_1 _))))
  refine wpAny_bind (wpAny_pure (wpAny_bind (wpAny_bind ?_)))
  first | refine wpAny_bind (wpAny_typeNameOfWhole_keyiter hit.typeIs (wpAny_pure ?_)) | refine wpAny_bind (wpAny_typeNameOf_keyiter hit.typeIs (wpAny_pure ?_))
  refine wpAny_bind (wpAny_fieldsOf ho hd ?_)
  simp only [show Builtin.Dict_items.ownsTuple "dict_keyiterator" = false from by decide, Bool.false_eq_true, if_false]
  show wpAny _ _ (if (Value.ref d == Value.none) = true then _ else _) _ _ s
  rw [if_neg (show ¬ ((Value.ref d == Value.none) = true) from Bool.false_ne_true)]
  refine wpAny_bind (wpAny_pure (wpAny_bind (wpAny_dictEntries hod hdd ?_)))
  rw [if_neg (by simp)]
  refine wpAny_bind (wpAny_pure (wpAny_bind (wpAny_dictEpoch hod hdd ?_)))
  rw [if_neg (by simp)]
  refine wpAny_pure ?_
  simp only [show ¬ ((i : Int) < 0) from by omega, if_false, Int.toNat_natCast, hx]
  refine wpAny_bind ?_
  first | refine wpAny_bind (wpAny_typeNameOfWhole_keyiter hit.typeIs (wpAny_pure ?_)) | refine wpAny_bind (wpAny_typeNameOf_keyiter hit.typeIs (wpAny_pure ?_))
  refine wpAny_bind (wpAny_isOneOf_keyiter hit.typeIs ?_)
  show wpAny _ _ (setField (.ref it) 1 (rawInt ((i : Int) + 1)) >>= _) _ _ s
  refine wpAny_bind (wpAny_setField ho hd (by simp) ?_)
  have hit' : (s.heap.update it (Obj.mapFields (·.setIfInBounds 1 (rawInt ((i : Int) + 1))))).IsKeyIter it d (i + 1) es.size ep :=
    ⟨_, Heap.get?_update_self _ ho (Obj.isFreed_of_fields (Obj.data_mapFields hd _)), (Obj.cls_mapFields ..).trans hc, by rw [Obj.data_mapFields hd]; simp [rawInt]⟩
  refine wpAny_bind (wpAny_holding ?_)
  refine wpAny_bind (wpAny_isOneOf_keyiter (s := { s with heap := s.heap.update it (Obj.mapFields (·.setIfInBounds 1 (rawInt ((i : Int) + 1)))) }) hit'.typeIs ?_)
  show wpAny _ _ (pure e.key) _ _ _
  exact wpAny_pure (wpAny_pure ⟨_, rfl, wpAny_pure (hQ _ hit' (Heap.SameBut.update ..))⟩)

theorem keys_end {it d : Addr} {o : Obj} {es : Array DictEntry} {i ep : Nat} {Q : Option Value → Shared → Prop} (hh : A.handled = none) (hit : s.heap.IsKeyIter it d i es.size ep) (hod : s.heap.get? d = some o) (hdd : o.data = .dict es ep) (hx : es.size ≤ i)
    (hQ : ∀ h', Heap.ExtBut it s.heap h' → Q none { s with heap := h' }) : wpAny (model prog w) A (pyNext (.ref it)) Q E s := by
  obtain ⟨oi, ho, hc, hd⟩ := id hit
  unfold pyNext
  refine wpAny_bind (wpAny_attempt (wpAny_callSpecial?_slot (name := Str.ofString "__next__") hit.typeIs PySem.F.slot_dict_keyiterator_next
    (wpAny_call_entry PySem.F.slot_dict_keyiterator_next hit.typeIs PySem.F.entry_dict_keyiterator_next ?_ (PySem.F.args_dict_keyiterator_next_1 _))))
  refine wpAny_bind (wpAny_pure (wpAny_bind (wpAny_bind ?_)))
  first | refine wpAny_bind (wpAny_typeNameOfWhole_keyiter hit.typeIs (wpAny_pure ?_)) | refine wpAny_bind (wpAny_typeNameOf_keyiter hit.typeIs (wpAny_pure ?_))
  refine wpAny_bind (wpAny_fieldsOf ho hd ?_)
  simp only [show Builtin.Dict_items.ownsTuple "dict_keyiterator" = false from by decide, Bool.false_eq_true, if_false]
  show wpAny _ _ (if (Value.ref d == Value.none) = true then _ else _) _ _ s
  rw [if_neg (show ¬ ((Value.ref d == Value.none) = true) from Bool.false_ne_true)]
  refine wpAny_bind (wpAny_pure (wpAny_bind (wpAny_dictEntries hod hdd ?_)))
  rw [if_neg (by simp)]
  refine wpAny_bind (wpAny_pure (wpAny_bind (wpAny_dictEpoch hod hdd ?_)))
  rw [if_neg (by simp)]
  refine wpAny_pure ?_
  simp only [show ¬ ((i : Int) < 0) from by omega, if_false, Int.toNat_natCast, Array.getElem?_eq_none hx]
  refine wpAny_bind ?_
  first | refine wpAny_bind (wpAny_typeNameOfWhole_keyiter hit.typeIs (wpAny_pure ?_)) | refine wpAny_bind (wpAny_typeNameOf_keyiter hit.typeIs (wpAny_pure ?_))
  show wpAny _ _ (setField (.ref it) 0 .none >>= _) _ _ s
  refine wpAny_bind (wpAny_setField ho hd (by simp) ?_)
  show wpAny _ _ (newExc (.type "StopIteration") [] >>= _) _ _ _
  refine wpAny_bind ?_
  simp only [newExc, newTuple]
  refine wpAny_bind (wpAny_newObj_type ?_ (by size_fits))
  refine wpAny_bind (m := firstArgMember _ _) (wpAny_of_eq (a := Value.none) (by first | rfl | (simp only [firstArgMember]; rfl)) ?_)
  refine wpAny_newObj_type ?_ (by size_fits)
  simp only [raiseNew]
  refine wpAny_bind (wpAny_handled ?_)
  rw [show A.in1.handled = none from hh]
  refine wpAny_bind (wpAny_pure (wpAny_throw ?_))
  refine wpAny_bind (wpAny_isInstance (T := "StopIteration") (b := true) ⟨_, Heap.get?_push_size _ rfl, rfl⟩ isSubtype_stop ?_)
  exact wpAny_pure (hQ _ (((Heap.SameBut.update ..).extBut.push _).push _))

theorem keys_walk (hh : A.handled = none) (I d : Addr) (hne : d ≠ I) (o : Obj) (es : Array DictEntry) (ep : Nat) (hd : o.data = .dict es ep) :
    Walks prog w A I [I, d] [I] es.size (fun i v => ∃ e, es[i]? = some e ∧ v = e.key) (fun i h => h.IsKeyIter I d i es.size ep ∧ h.get? d = some o) where
  sub := fun b hb => by simp at hb; simp [hb]
  frame := fun _ _ _ st hk => ⟨st.1.at fun o e => hk I (by simp) o e, hk d (by simp) o st.2⟩
  item := fun i s Q E hi st hQ => by
    refine keys_next st.1 st.2 hd (e := es[i]) (by simp [hi]) fun h' hit' hs' => ?_
    exact hQ _ h' s.toks ⟨es[i], by simp [hi], rfl⟩ ⟨hit', (hs'.2 d hne).trans st.2⟩ fun b o hb e => hs'.extBut b o (fun h => hb (by simp [h])) e
  done := fun s Q E st hQ => keys_end hh st.1 st.2 hd (Nat.le_refl _) fun h' he' => hQ h' s.toks fun b o hb e => he' b o (fun h => hb (by simp [h])) e
  self := fun _ _ _ _ st hQ => wpAny_pyIter_keyiter st.1 hQ
end
end Mine
end

section
set_option autoImplicit false
set_option maxRecDepth 100000
namespace Mine
open PySem PySem.W PyProof.Rows

section
variable [hi : Hid]
variable {prog : Program} {w : World} {W : Wd prog w} {cal : PC} {N : Nat} {sc scope : Scope}
variable {A : Around} {s : Shared} {φ : Phi} {σ σ' : St} {E : Value → Shared → Prop}

theorem nameK {env : Env} {ρ : Rho} {x : Str} {i : Nat} {pos : Pos} {K : V → Prop} {P : Value → Shared → Prop} (so : ScopeOk sc env) (re : EnvRel W env s.heap φ ρ) (hx : isVar sc x = true) (hi : nms[i]? = some x) (ev : varW (ρ i) K) (k : ∀ val v, Den s.heap φ val v → K v → P val s) :
    wpAny (model prog w) A (eval (.Name x pos) env) P E s := varW.e ev fun v hv q => wpAny_Name (ld_var re so hx hi hv fun val d => k val v d q) (not_debug hi)

theorem idxK (H : Room A N) {env : Env} {ρ : Rho} {x y : Str} {i j : Nat} {p q pos : Pos} {K : V → Prop} {P : Value → Shared → Prop} (so : ScopeOk sc env) (re : EnvRel W env s.heap φ ρ) (S : SimW W s.heap φ σ) (hx : isVar sc x = true) (hi : nms[i]? = some x) (hy : isVar sc y = true) (hj : nms[j]? = some y)
    (ev : varW (ρ i) fun u => varW (ρ j) fun v => indexW σ u v K) (k : ∀ val r tk, Den s.heap φ val r → K r → P val { s with toks := tk }) :
    wpAny (model prog w) A (eval (.Subscript (.Name x p) (.Name y q) pos) env) P E s := by
  refine Subscript_ (nameK so re hx hi ev fun a u D1 ev => nameK so re hy hj ev fun b v D2 ev => ?_)
  obtain ⟨T, id, hT, hl⟩ := index_type S D1 ev
  unfold subscriptTail
  refine wpAny_bind (wpAny_gi hT hl (wpAny_bind ?_))
  show wpAny _ _ (operate [a, b] (getItem a b)) _ _ _
  exact wpAny_operate' (snd_indexK (H.cline 10) S D1 D2 ev fun val r tk D q => wpAny_bind (wpAny_letTemporaryGo (wpAny_pure (k val r tk D q))))

theorem testK (H : Room A N) {env : Env} {ρ : Rho} {a b c d : Str} {ka kb kc kd : Nat} {p1 p2 p3 p4 p5 p6 p7 : Pos} {Q : V → St → Prop} {P : Bool → Shared → Prop} (so : ScopeOk sc env) (re : EnvRel W env s.heap φ ρ) (S : SimW W s.heap φ σ) (ha : isVar sc a = true) (ha' : nms[ka]? = some a) (hb : isVar sc b = true) (hb' : nms[kb]? = some b) (hc : isVar sc c = true) (hc' : nms[kc]? = some c) (hd : isVar sc d = true) (hd' : nms[kd]? = some d)
    (ev : Ev (.cmp .ne (.idx (.var ka) (.var kb)) (.idx (.var kc) (.var kd))) cal ρ σ Q) (k : ∀ r tk, Q (.bool r) σ → P r { s with toks := tk }) {whole : Sem Value} :
    wpAny (model prog w) A (isTrue (.Compare (.Subscript (.Name a p1) (.Name b p2) p3) [.NotEq] [.Subscript (.Name c p4) (.Name d p5) p6] p7) env whole) P E s := by
  have ev : varW (ρ ka) fun u => varW (ρ kb) fun v => indexW σ u v fun l => varW (ρ kc) fun u => varW (ρ kd) fun v => indexW σ u v fun r => eqW l r fun b => Q (.bool (!b)) σ := ev
  rw [isTrue_Compare1, markedBehindIn_of_false rfl]
  refine wpAny_bind (idxK H so re S ha ha' hb hb' ev fun lv l tk D1 ev => ?_)
  refine wpAny_bind (wpAny_holding (idxK (s := { s with toks := tk }) H so re S hc hc' hd hd' ev fun rv r tk2 D2 ev => ?_))
  refine wpAny_bind (wpAny_standAt (wpAny_bind (wpAny_operate' (snd_neK (K := fun r => Q (.bool r) σ) (s := { s with toks := tk2 }) H D1 D2 ev fun r q => ?_))))
  exact wpAny_holding (wpAny_truthy_bool (k r tk2 q))
end
end Mine
end

section
set_option autoImplicit false
set_option maxRecDepth 100000
namespace Mine
open PySem PySem.W PyProof.Rows

section
variable {prog : Program} {w : World} {W : Wd prog w} {cal : PC} {N : Nat} {sc scope : Scope}

theorem Paired.eq {vs ys : List Value} (h : Paired (fun (v y : Value) => y = v) vs ys) : ys = vs := by
  induction h with
  | nil => rfl
  | cons a _ ih => rw [a, ih]

theorem refW.e {v : V} {P : V → Prop} {K : Nat → Prop} (h : match v with | .ref r => K r | _ => False) (k : ∀ r, K r → P (.ref r)) : P v := match v, h with | .ref r, h => k r h
theorem OkE.compD {x a b c d : Str} {k ka kb kc kd : Nat} {iter : Expr} {ti : T} {px yp p1 p2 p3 p4 p5 p6 p7 pos : Pos} (hit : OkE W cal N sc iter ti) (hfs : ∀ env x, foldedSetIterable iter env x = pure x) (co : CompOk sc scope x) (hx : nms[k]? = some x)
    (ha : isVar scope a = true) (ha' : nms[ka]? = some a) (hb : isVar scope b = true) (hb' : nms[kb]? = some b) (hc : isVar scope c = true) (hc' : nms[kc]? = some c) (hd : isVar scope d = true) (hd' : nms[kd]? = some d) :
    OkE W cal N sc (.ListComp (.Name x yp) [⟨.Name x px, iter, [.Compare (.Subscript (.Name a p1) (.Name b p2) p3) [.NotEq] [.Subscript (.Name c p4) (.Name d p5) p6] p7], 0⟩] scope pos) (.compD k ti (.cmp .ne (.idx (.var ka) (.var kb)) (.idx (.var kc) (.var kd)))) := by
  intro _ A s env φ σ ρ Q E R so re S ev
  obtain ⟨m, Rm⟩ := id re
  have hcell : ∀ y ∈ scope.names, y.2 ≠ .cell := fun y hy => by rcases co.rest y hy with q | q | q <;> rw [q] <;> decide
  show wpAny (model prog w) A (comprehension (.ListComp (.Name x yp) [⟨.Name x px, iter, [.Compare (.Subscript (.Name a p1) (.Name b p2) p3) [.NotEq] [.Subscript (.Name c p4) (.Name d p5) p6] p7], 0⟩] scope pos) scope env iter.pos (newList []) false (eval iter env) none) _ _ _
  refine wpAny_comprehension_free (use := none) rfl (hfs env) (closureFor_eq (co.cells so Rm)) co.kind (fun y hy hl => by
    obtain ⟨n, kk⟩ := y; simp only at hl; subst hl; exact lookup_of_mem co.nodup hy) ?_
  refine wpV (hit A s env φ σ ρ _ _ R so re S ev) fun xval s₁ φ₁ xv σ₁ e1 X1 S1 D1 ev => ?_
  have R1 := Rm.mono X1
  revert D1
  refine refW.e (P := fun xv => Den s₁.heap φ₁ xval xv → _) ev fun r ev D1 => D1.refE fun da hr => ?_
  obtain ⟨es0, q, hck, t1, fin⟩ := ev
  obtain ⟨hsys, _, _, m2⟩ := S1.at hr q
  obtain ⟨xs, ⟨o, es, ep, ho, hex, hdat, hes, hkeys, hnd⟩, hall⟩ := m2 hck.1
  have hsz : es.size = xs.length := by rw [← Array.length_toList, hes, List.length_map]
  have hI0 := dead s₁.heap
  have hdI : da ≠ s₁.heap.objs.size := by rintro rfl; rw [hI0] at ho; cases ho
  refine keys_start hsys ho hex.1 hdat ?_
  have hk2 := keep_push (h := s₁.heap) { cls := .type "dict_keyiterator", data := .fields #[.ref da, .int 0 0, .int es.size 0, .int ep 0] }
  have out : ∀ {b : Addr} {o : Obj}, s₁.heap.get? b = some o → b ∉ [s₁.heap.objs.size] := fun e hb => by rw [mem_one hb, hI0] at e; cases e
  have hentry : ∀ (i : Nat) (v : Value), (∃ e, es[i]? = some e ∧ v = e.key) → ∃ y, xs[i]? = some y ∧ v = .ref y.2.1 := by
    rintro i v ⟨e, he, rfl⟩
    have : es.toList[i]? = some e := by simpa using he
    rw [hes, List.getElem?_map] at this
    obtain ⟨y, hy, rfl⟩ := Option.map_eq_some_iff.mp this
    exact ⟨y, hy, rfl⟩
  refine comp_block_walkC (RR := fun acc C => compPost (model prog w) A E none (GotQ W s φ Q) acc C) (keys_walk R.handled s₁.heap.objs.size da hdI o es ep hdat) (by rw [hsz, hall.length]; exact LIM_le (Nat.le_of_lt hck.2)) (fun _ => false) (fun v y => y = v)
    hcell co.kind co.own ⟨⟨_, Heap.get?_push_size _ rfl, rfl, rfl⟩, hk2 _ _ ho⟩ ?_ ⟨?_, ?_⟩ ?_
  · intro b hb
    rcases List.mem_cons.mp hb with rfl | hb
    · rw [Heap.size_push]; exact Nat.lt_succ_self _
    · rw [mem_one hb, Heap.size_push]; exact Nat.lt_succ_of_lt (Heap.lt_size ho)
  · intro C i v s₃ m₃ E' hC hP hn hm hk htk
    obtain ⟨y, hy, rfl⟩ := hentry i v hP
    obtain ⟨ee, he1, he2⟩ := hall.get' hy
    have hk13 : ∀ b o, s₁.heap.get? b = some o → s₃.heap.get? b = some o := fun b o e => hk b o (out e) (hk2 b o e)
    have dC : s₁.heap.get? C = none := Heap.get?_none_of_le (by rw [Heap.size_push] at hC; omega)
    have d3 : Den s₃.heap φ₁ (.ref y.2.1) ee.1.toV := by rw [he2.1]; exact he2.2.1.mono (Ext.all (own := []) hk13) Bare.nil
    have Rc := co.envAt so (R1.mono (Ext.all hk13)) hx hn (h0_dead S1 dC) (off_dead S1 dC).1 hm d3
    exact wpAny_tests_one (testK (Q := fun v σ' => v = .bool false ∧ σ' = σ₁) (σ := σ₁) R CompOk.scopeOk ⟨m₃, Rc⟩ (S1.keep hk13) ha ha' hb hb' hc hc' hd hd' (t1 ee (List.mem_of_getElem? he1)) fun r tk q => ⟨V.bool.inj q.1, s₃.heap, tk, rfl, fun _ _ e => e⟩)
  · intro C i v s₃ m₃ E' hC hP hpv hn hm hk htk
    cases hpv
  · intro D C h' tk m' ys vs hD hC hDC hn hl hpl hlen hP hF hk
    refine ⟨m', hn, fun h'' hs'' => ?_⟩
    have hk1 : ∀ b o, s₁.heap.get? b = some o → h''.get? b = some o := fun b o e => hs''.extBut b o (by rintro rfl; rw [hk2 _ o e] at hC; cases hC) (hk b o (out e) (hk2 b o e))
    have hys : ys.toList = [] := (Paired.eq hF).trans (List.filter_eq_nil_iff.mpr fun _ _ h => nomatch h)
    have hy0 : ys.size = 0 := by rw [← Array.length_toList, hys]; rfl
    exact .mk φ₁ _ σ₁ (e1.trans ⟨rfl, rfl, rfl⟩) (X1.trans (Ext.all hk1)) (S1.keep hk1) (.list (hl.extBut hs''.extBut hDC) (off_dead S1 (dead_of hk2 hD)) (by rw [hy0]; exact Nat.zero_le _) (by rw [hys]; exact .nil)) fin
end
end Mine
end

section
set_option autoImplicit false
set_option maxRecDepth 100000
namespace Mine
open PySem PySem.W PyProof.Rows

noncomputable def optB {α : Type} (o : Option α) (f : α → Bool) : Bool := match o with | some a => f a | none => false
theorem ff {P : Prop} (h : false = true) : P := absurd h Bool.false_ne_true
theorem optE {α : Type} {o : Option α} {f : α → Bool} {P : Option α → Prop} (h : optB o f = true) (k : ∀ a, f a = true → P (some a)) : P o := match o, h with | some a, h => k a h
noncomputable def asName : Expr → Option (Str)
  | .Name x p => some x
  | _ => none
theorem unName {f : Str → Bool} {P : Expr → Prop} {e : Expr} (h : optB (asName e) f = true) (hk : ∀ x p, f x = true → P (.Name x p)) : P e := by
  cases e with
  | Name x p => exact hk x p h
  | _ => exact ff h
noncomputable def asBin : Expr → Option (Expr × Operator × Expr)
  | .BinOp l o r p => some (l, o, r)
  | _ => none
theorem unBin {f : Expr × Operator × Expr → Bool} {P : Expr → Prop} {e : Expr} (h : optB (asBin e) f = true) (hk : ∀ l o r p, f (l, o, r) = true → P (.BinOp l o r p)) : P e := by
  cases e with
  | BinOp l o r p => exact hk l o r p h
  | _ => exact ff h
noncomputable def asUn : Expr → Option (UnaryOp × Expr)
  | .UnaryOp o x p => some (o, x)
  | _ => none
theorem unUn {f : UnaryOp × Expr → Bool} {P : Expr → Prop} {e : Expr} (h : optB (asUn e) f = true) (hk : ∀ o x p, f (o, x) = true → P (.UnaryOp o x p)) : P e := by
  cases e with
  | UnaryOp o x p => exact hk o x p h
  | _ => exact ff h
noncomputable def asBoolOp : Expr → Option (BoolOp × List Expr × Pos)
  | .BoolOp o es p => some (o, es, p)
  | _ => none
theorem unBoolOp {f : BoolOp × List Expr × Pos → Bool} {P : Expr → Prop} {e : Expr} (h : optB (asBoolOp e) f = true) (hk : ∀ o es p, f (o, es, p) = true → P (.BoolOp o es p)) : P e := by
  cases e with
  | BoolOp o es p => exact hk o es p h
  | _ => exact ff h
noncomputable def asCompare : Expr → Option (Expr × List CmpOp × List Expr)
  | .Compare x os ys p => some (x, os, ys)
  | _ => none
theorem unCompare {f : Expr × List CmpOp × List Expr → Bool} {P : Expr → Prop} {e : Expr} (h : optB (asCompare e) f = true) (hk : ∀ x os ys p, f (x, os, ys) = true → P (.Compare x os ys p)) : P e := by
  cases e with
  | Compare x os ys p => exact hk x os ys p h
  | _ => exact ff h
noncomputable def asIf : Expr → Option (Expr × Expr × Expr)
  | .IfExp x y z p => some (x, y, z)
  | _ => none
theorem unIf {f : Expr × Expr × Expr → Bool} {P : Expr → Prop} {e : Expr} (h : optB (asIf e) f = true) (hk : ∀ x y z p, f (x, y, z) = true → P (.IfExp x y z p)) : P e := by
  cases e with
  | IfExp x y z p => exact hk x y z p h
  | _ => exact ff h
noncomputable def asTuple : Expr → Option (List Expr)
  | .Tuple xs k p => some xs
  | _ => none
theorem unTuple {f : List Expr → Bool} {P : Expr → Prop} {e : Expr} (h : optB (asTuple e) f = true) (hk : ∀ xs k p, f xs = true → P (.Tuple xs k p)) : P e := by
  cases e with
  | Tuple xs k p => exact hk xs k p h
  | _ => exact ff h
noncomputable def asList : Expr → Option (List Expr × Pos)
  | .List xs p => some (xs, p)
  | _ => none
theorem unList {f : List Expr × Pos → Bool} {P : Expr → Prop} {e : Expr} (h : optB (asList e) f = true) (hk : ∀ xs p, f (xs, p) = true → P (.List xs p)) : P e := by
  cases e with
  | List xs p => exact hk xs p h
  | _ => exact ff h
noncomputable def asDict : Expr → Option (List (Option Expr) × List Expr)
  | .Dict ks vs p => some (ks, vs)
  | _ => none
theorem unDict {f : List (Option Expr) × List Expr → Bool} {P : Expr → Prop} {e : Expr} (h : optB (asDict e) f = true) (hk : ∀ ks vs p, f (ks, vs) = true → P (.Dict ks vs p)) : P e := by
  cases e with
  | Dict ks vs p => exact hk ks vs p h
  | _ => exact ff h
noncomputable def asSub : Expr → Option (Expr × Expr)
  | .Subscript x y p => some (x, y)
  | _ => none
theorem unSub {f : Expr × Expr → Bool} {P : Expr → Prop} {e : Expr} (h : optB (asSub e) f = true) (hk : ∀ x y p, f (x, y) = true → P (.Subscript x y p)) : P e := by
  cases e with
  | Subscript x y p => exact hk x y p h
  | _ => exact ff h
noncomputable def asSlice : Expr → Option (Option Expr × Option Expr × Option Expr)
  | .Slice l u s p => some (l, u, s)
  | _ => none
theorem unSlice {f : Option Expr × Option Expr × Option Expr → Bool} {P : Expr → Prop} {e : Expr} (h : optB (asSlice e) f = true) (hk : ∀ l u s p, f (l, u, s) = true → P (.Slice l u s p)) : P e := by
  cases e with
  | Slice l u s p => exact hk l u s p h
  | _ => exact ff h
noncomputable def asAttr : Expr → Option (Expr × Str × Pos)
  | .Attribute x a p => some (x, a, p)
  | _ => none
theorem unAttr {f : Expr × Str × Pos → Bool} {P : Expr → Prop} {e : Expr} (h : optB (asAttr e) f = true) (hk : ∀ x a p, f (x, a, p) = true → P (.Attribute x a p)) : P e := by
  cases e with
  | Attribute x a p => exact hk x a p h
  | _ => exact ff h
noncomputable def asCall : Expr → Option (Expr × List Expr × List Keyword × Pos)
  | .Call f es kw p => some (f, es, kw, p)
  | _ => none
theorem unCall {f : Expr × List Expr × List Keyword × Pos → Bool} {P : Expr → Prop} {e : Expr} (h : optB (asCall e) f = true) (hk : ∀ fn es kw p, f (fn, es, kw, p) = true → P (.Call fn es kw p)) : P e := by
  cases e with
  | Call f es kw p => exact hk f es kw p h
  | _ => exact ff h
noncomputable def asConst : Expr → Option (Const)
  | .Constant c k p => some c
  | _ => none
theorem unConst {f : Const → Bool} {P : Expr → Prop} {e : Expr} (h : optB (asConst e) f = true) (hk : ∀ c k p, f c = true → P (.Constant c k p)) : P e := by
  cases e with
  | Constant c k p => exact hk c k p h
  | _ => exact ff h
noncomputable def asComp : Expr → Option (Expr × List Comprehension × Scope × Pos)
  | .ListComp x gs sc p => some (x, gs, sc, p)
  | _ => none
theorem unComp {f : Expr × List Comprehension × Scope × Pos → Bool} {P : Expr → Prop} {e : Expr} (h : optB (asComp e) f = true) (hk : ∀ x gs sc p, f (x, gs, sc, p) = true → P (.ListComp x gs sc p)) : P e := by
  cases e with
  | ListComp x gs sc p => exact hk x gs sc p h
  | _ => exact ff h
noncomputable def asAssign : Stmt → Option (List Expr × Expr × Pos)
  | .Assign ts e p => some (ts, e, p)
  | _ => none
theorem unAssign {f : List Expr × Expr × Pos → Bool} {P : Stmt → Prop} {e : Stmt} (h : optB (asAssign e) f = true) (hk : ∀ ts e p, f (ts, e, p) = true → P (.Assign ts e p)) : P e := by
  cases e with
  | Assign ts e p => exact hk ts e p h
  | _ => exact ff h
noncomputable def asAug : Stmt → Option (Expr × Operator × Expr)
  | .AugAssign t o e p => some (t, o, e)
  | _ => none
theorem unAug {f : Expr × Operator × Expr → Bool} {P : Stmt → Prop} {e : Stmt} (h : optB (asAug e) f = true) (hk : ∀ t o e p, f (t, o, e) = true → P (.AugAssign t o e p)) : P e := by
  cases e with
  | AugAssign t o e p => exact hk t o e p h
  | _ => exact ff h
noncomputable def asFor : Stmt → Option (Expr × Expr × List Stmt × List Stmt)
  | .For t i b e p => some (t, i, b, e)
  | _ => none
theorem unFor {f : Expr × Expr × List Stmt × List Stmt → Bool} {P : Stmt → Prop} {e : Stmt} (h : optB (asFor e) f = true) (hk : ∀ t i b e p, f (t, i, b, e) = true → P (.For t i b e p)) : P e := by
  cases e with
  | For t i b e p => exact hk t i b e p h
  | _ => exact ff h
noncomputable def asIfS : Stmt → Option (Expr × List Stmt × List Stmt)
  | .If c a b p => some (c, a, b)
  | _ => none
theorem unIfS {f : Expr × List Stmt × List Stmt → Bool} {P : Stmt → Prop} {e : Stmt} (h : optB (asIfS e) f = true) (hk : ∀ c a b p, f (c, a, b) = true → P (.If c a b p)) : P e := by
  cases e with
  | If c a b p => exact hk c a b p h
  | _ => exact ff h
noncomputable def asRet : Stmt → Option (Option Expr)
  | .Return e p => some e
  | _ => none
theorem unRet {f : Option Expr → Bool} {P : Stmt → Prop} {e : Stmt} (h : optB (asRet e) f = true) (hk : ∀ e p, f e = true → P (.Return e p)) : P e := by
  cases e with
  | Return e p => exact hk e p h
  | _ => exact ff h
noncomputable def asExprS : Stmt → Option (Expr)
  | .Expr e p => some e
  | _ => none
theorem unExprS {f : Expr → Bool} {P : Stmt → Prop} {e : Stmt} (h : optB (asExprS e) f = true) (hk : ∀ e p, f e = true → P (.Expr e p)) : P e := by
  cases e with
  | Expr e p => exact hk e p h
  | _ => exact ff h
noncomputable def isBrk : Stmt → Bool
  | .Break _ => true
  | _ => false
theorem eBrk' {s : Stmt} {P : Stmt → Prop} (h : isBrk s = true) (k : ∀ p, P (.Break p)) : P s := by
  cases s with
  | Break p => exact k p
  | _ => exact ff h
noncomputable def isRaise : Stmt → Bool
  | .Raise .. => true
  | _ => false
noncomputable def oneB {α : Type} (l : List α) (f : α → Bool) : Bool := match l with | [x] => f x | _ => false
noncomputable def twoB {α : Type} (l : List α) (f : α → α → Bool) : Bool := match l with | [x, y] => f x y | _ => false
theorem oneE {α : Type} {l : List α} {f : α → Bool} {P : List α → Prop} (h : oneB l f = true) (k : ∀ x, f x = true → P [x]) : P l := by
  cases l with
  | nil => exact ff h
  | cons a r =>
    cases r with
    | nil => exact k a h
    | cons _ _ => exact ff h
theorem twoE {α : Type} {l : List α} {f : α → α → Bool} {P : List α → Prop} (h : twoB l f = true) (k : ∀ x y, f x y = true → P [x, y]) : P l := by
  cases l with
  | nil => exact ff h
  | cons a r =>
    cases r with
    | nil => exact ff h
    | cons b r =>
      cases r with
      | nil => exact k a b h
      | cons _ _ => exact ff h
theorem nilE {α : Type} {l : List α} {P : List α → Prop} (h : l.isEmpty = true) (k : P []) : P l := by
  cases l with
  | nil => exact k
  | cons _ _ => exact ff h
theorem and2 {a b : Bool} (h : (a && b) = true) : a = true ∧ b = true := Bool.and_eq_true_iff.mp h
theorem andE {a b : Bool} {P : Prop} (h : (a && b) = true) (k : a = true → b = true → P) : P := match a, h with | true, h => k rfl h
theorem orE {a b : Bool} {P : Prop} (h : (a || b) = true) (k1 : a = true → P) (k2 : b = true → P) : P := match a, h with | true, _ => k1 rfl | false, h => k2 h
theorem notE {a : Bool} (h : (!a) = true) : a = false := match a, h with | false, _ => rfl
theorem dec {p : Prop} [Decidable p] (h : decide p = true) : p := of_decide_eq_true h
noncomputable def isOp (pos : Bool) : CmpOp → Bool
  | .Is => pos
  | .IsNot => !pos
  | _ => false
theorem isOp_of {pos : Bool} {o : CmpOp} (h : isOp pos o = true) : (o = .Is ∧ pos = true) ∨ (o = .IsNot ∧ pos = false) := by
  cases o with
  | Is => exact .inl ⟨rfl, h⟩
  | IsNot => exact .inr ⟨rfl, notE h⟩
  | _ => exact ff h
noncomputable def isUSub (o : UnaryOp) : Bool := match o with | .USub => true | _ => false
theorem isUSub_of {o : UnaryOp} (h : isUSub o = true) : o = .USub := by cases o <;> first | rfl | cases h
noncomputable def isNot (o : UnaryOp) : Bool := match o with | .Not => true | _ => false
theorem isNot_of {o : UnaryOp} (h : isNot o = true) : o = .Not := by cases o <;> first | rfl | cases h
noncomputable def isAnd : BoolOp → Bool
  | .And => true
  | .Or => false
theorem isAnd_of {o : BoolOp} (h : isAnd o = true) : o = .And := by cases o <;> first | rfl | cases h
theorem isOr_of {o : BoolOp} (h : (!isAnd o) = true) : o = .Or := by cases o <;> first | rfl | cases h
noncomputable def isNoneC : Const → Bool
  | .none => true
  | _ => false
theorem isNoneC_of {c : Const} (h : isNoneC c = true) : c = .none := by cases c <;> first | rfl | cases h
noncomputable def intC (c : Const) (f : Int → Bool) : Bool := match c with | .int i => f i | _ => false
theorem intCE {c : Const} {f : Int → Bool} {P : Const → Prop} (h : intC c f = true) (k : ∀ i, f i = true → P (.int i)) : P c := by
  cases c with
  | int i => exact k i h
  | _ => exact ff h
noncomputable def boolC (c : Const) (f : Bool → Bool) : Bool := match c with | .bool i => f i | _ => false
theorem boolCE {c : Const} {f : Bool → Bool} {P : Const → Prop} (h : boolC c f = true) (k : ∀ i, f i = true → P (.bool i)) : P c := by
  cases c with
  | bool i => exact k i h
  | _ => exact ff h
noncomputable def isPow : Operator → Bool
  | .Pow => true
  | _ => false
theorem isPow_of {o : Operator} (h : isPow o = true) : o = .Pow := by cases o <;> first | rfl | cases h
noncomputable def isNe : CmpOp → Bool
  | .NotEq => true
  | _ => false
theorem isNe_of {o : CmpOp} (h : isNe o = true) : o = .NotEq := by cases o <;> first | rfl | cases h
theorem addSub_of {op : Operator} (h : addSub op = true) : op = .Add ∨ op = .Sub := by
  cases op with
  | Add => exact .inl rfl
  | Sub => exact .inr rfl
  | _ => exact ff h

noncomputable def T.isNul : T → Bool
  | .lit .nul => true
  | _ => false
theorem isNul_of {t : T} (h : t.isNul = true) : t = .lit .nul := by
  cases t with
  | lit v =>
    cases v with
    | nul => rfl
    | _ => exact ff h
  | _ => exact ff h
noncomputable def T.isTrueT : T → Bool
  | .lit (.bool b) => b
  | _ => false
theorem isTrueT_of {t : T} (h : t.isTrueT = true) : t = boolT true := by
  cases t with
  | lit v =>
    cases v with
    | bool b => rw [show b = true from h]; rfl
    | _ => exact ff h
  | _ => exact ff h
noncomputable def T.isD : T → Bool
  | .compD .. => true
  | _ => false
noncomputable def varB (t : T) (f : Nat → Bool) : Bool := match t with | .var a => f a | _ => false
theorem varE {t : T} {f : Nat → Bool} {P : T → Prop} (h : varB t f = true) (k : ∀ a, f a = true → P (.var a)) : P t := by
  cases t with
  | var a => exact k a h
  | _ => exact ff h
noncomputable def idxB (t : T) (f : T → T → Bool) : Bool := match t with | .idx a b => f a b | _ => false
theorem idxE {t : T} {f : T → T → Bool} {P : T → Prop} (h : idxB t f = true) (k : ∀ a b, f a b = true → P (.idx a b)) : P t := by
  cases t with
  | idx a b => exact k a b h
  | _ => exact ff h
noncomputable def neB (t : T) (f : T → T → Bool) : Bool := match t with | .cmp o a b => decide (o = .ne) && f a b | _ => false
theorem neE {t : T} {f : T → T → Bool} {P : T → Prop} (h : neB t f = true) (k : ∀ a b, f a b = true → P (.cmp .ne a b)) : P t := by
  cases t with
  | cmp o a b => exact andE h fun h1 h2 => by rw [dec h1]; exact k a b h2
  | _ => exact ff h
noncomputable def oneT (t : Ts) (f : T → Bool) : Bool := match t with | .cons a .nil => f a | _ => false
theorem oneTE {t : Ts} {f : T → Bool} {P : Ts → Prop} (h : oneT t f = true) (k : ∀ a, f a = true → P (.cons a .nil)) : P t := by
  cases t with
  | nil => exact ff h
  | cons a r =>
    cases r with
    | nil => exact k a h
    | cons _ _ => exact ff h
end Mine
end

section
set_option autoImplicit false
set_option maxRecDepth 100000
namespace Mine
open PySem PySem.W PyProof.Rows

noncomputable def litChk (v : V) (sc : Scope) (e : Expr) : Bool := match v with
  | .int i => optB (asConst e) (fun c => intC c fun j => decide (i = j)) || (optB (asName e) (fun x => isGlob sc x && decide (constOf x = some i)) ||
      optB (asBin e) fun c => isPow c.2.1 && (optB (asConst c.1) fun a => intC a fun a => optB (asConst c.2.2) fun b => intC b fun b => (decide (a = 10) && (decide (b = 18) || decide (b = 20))) && decide (i = a ^ b.toNat)))
  | .bool a => optB (asConst e) fun c => boolC c fun b => decide (a = b)
  | .nul => optB (asConst e) isNoneC
  | _ => false
noncomputable def restB (o : BoolOp) (p : Pos) (es : List Expr) (f : Expr → Expr → Bool) : Bool := match es with
  | x :: y :: r => f x (match r with | [] => y | _ => .BoolOp o (y :: r) p)
  | _ => false
theorem restE {o : BoolOp} {p : Pos} {es : List Expr} {f : Expr → Expr → Bool} {P : List Expr → Prop} (h : restB o p es f = true) (k1 : ∀ x y, f x y = true → P [x, y]) (k2 : ∀ x y z r, f x (.BoolOp o (y :: z :: r) p) = true → P (x :: y :: z :: r)) : P es := by
  cases es with
  | nil => exact ff h
  | cons x r =>
    cases r with
    | nil => exact ff h
    | cons y r =>
      cases r with
      | nil => exact k1 x y h
      | cons z r => exact k2 x y z r h
noncomputable def condB (ifs : List Expr) (cond : T) (f : Expr → Bool) : Bool := match ifs with | [] => cond.isTrueT | x :: r => r.isEmpty && f x
noncomputable def partB (o : Option Expr) (t : T) (f : Expr → Bool) : Bool := match o with | none => t.isNul | some l => f l
noncomputable abbrev CE := Scope → Expr → Bool
noncomputable abbrev CL := Scope → List Expr → Bool
noncomputable def kAnd (a b : CE) : CE := fun sc e => optB (asBoolOp e) fun c => isAnd c.1 && restB .And c.2.2 c.2.1 fun x y => a sc x && b sc y
noncomputable def kOr (a b : CE) : CE := fun sc e => optB (asBoolOp e) fun c => (!isAnd c.1) && restB .Or c.2.2 c.2.1 fun x y => a sc x && b sc y
noncomputable def kCmp (o : CO) (a b : CE) : CE := fun sc e => optB (asCompare e) fun c => oneB c.2.1 fun p => oneB c.2.2 fun y => (!lastMarks [p] [y]) && (decide (compCmp p = some o) && (a sc c.1 && b sc y))
noncomputable def kChain (o o' : CO) (a b x : CE) : CE := fun sc e => optB (asCompare e) fun c => twoB c.2.1 fun p q => twoB c.2.2 fun y z => (!lastMarks [p, q] [y, z]) && (decide (compCmp p = some o) && (decide (compCmp q = some o') && (a sc c.1 && (b sc y && x sc z))))
noncomputable def kIsNone (a : CE) (pos : Bool) : CE := fun sc e => optB (asCompare e) fun c => oneB c.2.1 fun p => oneB c.2.2 fun y => isOp pos p && (optB (asConst y) isNoneC && a sc c.1)
noncomputable def kSeq (tup : Bool) (es : CL) : CE := fun sc e => match tup with
  | true => optB (asTuple e) fun xs => es sc xs
  | false => optB (asList e) fun c => es sc c.1
noncomputable def kSlice (lo hi : T) (a b c : CE) : CE := fun sc e => optB (asSub e) fun s => optB (asSlice s.2) fun d => d.2.2.isNone && (a sc s.1 && (partB d.1 lo (b sc) && partB d.2.1 hi (c sc)))
noncomputable def callB (e : Expr) (f : Expr → List Expr → Pos → Bool) : Bool := optB (asCall e) fun c => c.2.2.1.isEmpty && f c.1 c.2.1 c.2.2.2
theorem unCall0 {f : Expr → List Expr → Pos → Bool} {P : Expr → Prop} {e : Expr} (h : callB e f = true) (k : ∀ fn es p, f fn es p = true → P (.Call fn es [] p)) : P e :=
  unCall h fun fn es kw p h => andE h fun h1 h => nilE (P := fun kw => P (.Call fn es kw p)) h1 (k fn es p h)
noncomputable def kCall (k : Nat) (es : CL) : CE := fun sc e => callB e fun fn xs p => optB (asName fn) fun f => isGlob sc f && (decide (fnCode f = some k) && (isDef k && es sc xs))
noncomputable def kMeth (f : Nat) (o : CE) (es : CL) : CE := fun sc e => callB e fun fn xs p => optB (asAttr fn) fun d => methOk d.1 d.2.2 p xs.length && (decide (fnCode d.2.1 = some f) && (isMethod f && (o sc d.1 && es sc xs)))
noncomputable def kNew : CE := fun sc e => callB e fun fn xs p => optB (asName fn) fun f => xs.isEmpty && (isGlob sc f && decide (f = ("Patterns" : Str)))
noncomputable def kPrim (p : Prim) (mt : Bool) (ts : Ts) (es : CL) : CE := fun sc e => callB e fun fn xs _ => optB (asName fn) fun f => isGlob sc f && ((decide (primOf f xs.length = some p) && es sc xs) ||
  (decide (f = ("isinstance" : Str)) && ((!mt) && oneT ts fun _ => twoB xs fun a d => es sc [a] &&
    ((optB (asName d) fun k => isGlob sc k && ((decide (p = .isInt) && decide (k = ("int" : Str))) || (decide (p = .isBool) && decide (k = ("bool" : Str))))) ||
     (optB (asTuple d) fun cs => twoB cs fun q r => optB (asName q) fun k => optB (asName r) fun l => decide (p = .isSeq) && ((isGlob sc k && decide (k = ("tuple" : Str))) && (isGlob sc l && decide (l = ("list" : Str)))))))))
noncomputable def kAppend (o t : CE) : CE := fun sc e => callB e fun fn xs p => optB (asAttr fn) fun d => oneB xs fun x => methOk d.1 d.2.2 p 1 && (decide (d.2.1 = ("append" : Str)) && (o sc d.1 && t sc x))
noncomputable def kGet (o t u : CE) : CE := fun sc e => callB e fun fn xs p => optB (asAttr fn) fun d => twoB xs fun x y => methOk d.1 d.2.2 p 2 && (decide (d.2.1 = ("get" : Str)) && (o sc d.1 && (t sc x && u sc y)))
noncomputable def kComp (i : Nat) (cond : T) (it elt cc : CE) : CE := fun sc e => optB (asComp e) fun c => oneB c.2.1 fun g => optB (asName g.target) fun y => decide (g.is_async = 0) && (compOk sc c.2.2.1 y && (decide (code y = some i) && (it sc g.iter && (elt c.2.2.1 c.1 && condB g.ifs cond (cc c.2.2.1)))))
noncomputable def nameB (e : Expr) (sc : Scope) (i : Nat) : Bool := optB (asName e) fun x => isVar sc x && decide (code x = some i)
noncomputable def subB (e : Expr) (sc : Scope) (i j : Nat) : Bool := optB (asSub e) fun l => nameB l.1 sc i && nameB l.2 sc j
noncomputable def kCompD (i : Nat) (cond : T) (it : CE) : CE := fun sc e => optB (asComp e) fun c => oneB c.2.1 fun g => optB (asName g.target) fun y => decide (g.is_async = 0) && (optB (asName c.1) (fun y' => decide (y' = y)) && (compOk sc c.2.2.1 y && (decide (code y = some i) && (it sc g.iter &&
  oneB g.ifs fun x => optB (asCompare x) fun q => oneB q.2.1 fun o => oneB q.2.2 fun r => isNe o && neB cond fun s t => idxB s fun s1 s2 => varB s1 fun a => varB s2 fun b => idxB t fun t1 t2 => varB t1 fun k => varB t2 fun l => subB q.1 c.2.2.1 a b && subB r c.2.2.1 k l))))
noncomputable def kCons (a : CE) (r : CL) : CL := fun sc es => match es with | e :: es => a sc e && r sc es | [] => false
noncomputable def chk (t : T) : CE := @T.rec (fun _ => CE) (fun _ => CL) (fun i sc e => nameB e sc i) litChk (fun o _ _ a b sc e => optB (asBin e) fun c => decide (compOp c.2.1 = some o) && (a sc c.1 && b sc c.2.2)) (fun _ a sc e => optB (asUn e) fun c => isUSub c.1 && a sc c.2) (fun _ a sc e => optB (asUn e) fun c => isNot c.1 && a sc c.2) (fun _ _ a b => kAnd a b) (fun _ _ a b => kOr a b) (fun o _ _ a b => kCmp o a b)
  (fun o p _ _ _ a b c => kChain o p a b c) (fun _ pos a => kIsNone a pos) (fun _ _ _ c a b sc e => optB (asIf e) fun d => c sc d.1 && (a sc d.2.1 && b sc d.2.2)) (fun tup _ _ es => kSeq tup es) (fun _ _ a i sc e => optB (asSub e) fun c => a sc c.1 && i sc c.2) (fun _ lo hi a b c => kSlice lo hi a b c) (fun k _ es => kCall k es) (fun f _ _ o es => kMeth f o es) kNew
  (fun p mt ts es => kPrim p mt ts es) (fun _ _ o t => kAppend o t) (fun _ _ _ o t u => kGet o t u) (fun _ k o sc e => optB (asAttr e) fun c => plainBase c.1 && (decide (attrCode c.2.1 = some k) && o sc c.1)) (fun _ i _ _ cond it elt cc => kComp i cond it elt cc) (fun i _ cond it _ => kCompD i cond it) (fun _ e => optB (asDict e) fun c => c.1.isEmpty && c.2.isEmpty)
  (fun _ _ a b sc e => optB (asBin e) fun c => decide (compOp c.2.1 = some .mul) && (a sc c.1 && b sc c.2.2)) (fun _ es => es.isEmpty) (fun _ _ a r => kCons a r) t
noncomputable def chks (t : Ts) : CL := @Ts.rec (fun _ => CE) (fun _ => CL) (fun i sc e => nameB e sc i) litChk (fun o _ _ a b sc e => optB (asBin e) fun c => decide (compOp c.2.1 = some o) && (a sc c.1 && b sc c.2.2)) (fun _ a sc e => optB (asUn e) fun c => isUSub c.1 && a sc c.2) (fun _ a sc e => optB (asUn e) fun c => isNot c.1 && a sc c.2) (fun _ _ a b => kAnd a b) (fun _ _ a b => kOr a b) (fun o _ _ a b => kCmp o a b)
  (fun o p _ _ _ a b c => kChain o p a b c) (fun _ pos a => kIsNone a pos) (fun _ _ _ c a b sc e => optB (asIf e) fun d => c sc d.1 && (a sc d.2.1 && b sc d.2.2)) (fun tup _ _ es => kSeq tup es) (fun _ _ a i sc e => optB (asSub e) fun c => a sc c.1 && i sc c.2) (fun _ lo hi a b c => kSlice lo hi a b c) (fun k _ es => kCall k es) (fun f _ _ o es => kMeth f o es) kNew
  (fun p mt ts es => kPrim p mt ts es) (fun _ _ o t => kAppend o t) (fun _ _ _ o t u => kGet o t u) (fun _ k o sc e => optB (asAttr e) fun c => plainBase c.1 && (decide (attrCode c.2.1 = some k) && o sc c.1)) (fun _ i _ _ cond it elt cc => kComp i cond it elt cc) (fun i _ cond it _ => kCompD i cond it) (fun _ e => optB (asDict e) fun c => c.1.isEmpty && c.2.isEmpty)
  (fun _ _ a b sc e => optB (asBin e) fun c => decide (compOp c.2.1 = some .mul) && (a sc c.1 && b sc c.2.2)) (fun _ es => es.isEmpty) (fun _ _ a r => kCons a r) t

section
variable {prog : Program} {w : World} (W : Wd prog w) (cal : PC) (N : Nat)

structure Good (sc : Scope) (e : Expr) (t : T) : Prop where
  ev : OkE W cal N sc e t
  tru : OkB W cal N sc e t
  star : ∀ env r, starEach (e :: r) env = (false, eval e env) :: starEach r env
  fold : ∀ env x, foldedSetIterable e env x = pure x
  other : ∀ env tgt line, (∀ x p, tgt ≠ .Name x p) → swapsWith e (some tgt) line env = pure false
  sub : ∀ o i, subscripted e false o i = operate [o, i] (getItem o i)
  sw : (∀ env tgt line, swapsWith e (some tgt) line env = pure false) ∨
    ((∀ env x p line, ∃ b, swapsWith e (some (.Name x p)) line env = pure b) ∧ (OkU W cal N sc e t ∨ ∃ x it c, t = .compD x it c))
end

section
variable {prog : Program} {w : World} {W : Wd prog w} {cal : PC} {N : Nat} {sc : Scope}

theorem Good.mk' {e : Expr} {t : T} (h1 : OkE W cal N sc e t) (h2 : OkB W cal N sc e t) (star : ∀ env r, starEach (e :: r) env = (false, eval e env) :: starEach r env) (fold : ∀ env x, foldedSetIterable e env x = pure x)
    (sub : ∀ o i, subscripted e false o i = operate [o, i] (getItem o i)) (sw : ∀ env tgt line, swapsWith e (some tgt) line env = pure false) : Good W cal N sc e t :=
  ⟨h1, h2, star, fold, fun env tgt line _ => sw env tgt line, sub, .inl sw⟩
theorem Good.mkP {e : Expr} {t : T} (h1 : OkE W cal N sc e t) (h2 : ∀ env whole, isTrue e env whole = (do let v ← whole; standAt e.pos; holding [v] (truthy v))) (star : ∀ env r, starEach (e :: r) env = (false, eval e env) :: starEach r env) (fold : ∀ env x, foldedSetIterable e env x = pure x)
    (sub : ∀ o i, subscripted e false o i = operate [o, i] (getItem o i)) (sw : ∀ env tgt line, swapsWith e (some tgt) line env = pure false) : Good W cal N sc e t :=
  .mk' h1 (OkB.plain h1 h2) star fold sub sw

theorem Good.mkC {elt : Expr} {gs : List Comprehension} {scope : Scope} {pos : Pos} {t : T} (h1 : OkE W cal N sc (.ListComp elt gs scope pos) t) (hu : OkU W cal N sc (.ListComp elt gs scope pos) t ∨ ∃ x it c, t = .compD x it c) : Good W cal N sc (.ListComp elt gs scope pos) t :=
  ⟨h1, OkB.plain h1 (fun _ _ => rfl), fun _ _ => rfl, fun _ _ => rfl, fun _ tgt _ hn => (by cases tgt <;> first | rfl | exact absurd rfl (hn _ _)), fun _ _ => rfl, .inr ⟨fun env x p line => ⟨_, rfl⟩, hu⟩⟩
theorem fn_not_debug {f : Str} {k : Nat} (h : fnCode f = some k) : (f == ("__debug__" : Str)) = false := by
  have hne : ∀ y ∈ fns, (y == ("__debug__" : Str)) = false := by decide +kernel
  obtain ⟨j, _, h2⟩ := code_nms h
  exact hne f (List.mem_of_getElem? h2)
theorem mult_of {op : Operator} (h : compOp op = some .mul) : op = .Mult := by cases op <;> first | rfl | (simp [compOp] at h)


variable (W cal N) in
noncomputable def Gd (t : T) (c : CE) : Prop := ∀ sc e, c sc e = true → Good W cal N sc e t
variable (W cal N) in
structure GoodL (sc : Scope) (es : List Expr) (ts : Ts) : Prop where
  ev : OkL W cal N sc es ts
  one : ∀ e t, es = [e] → ts = .cons t .nil → Good W cal N sc e t
variable (W cal N) in
noncomputable def GdL (ts : Ts) (c : CL) : Prop := ∀ sc es, c sc es = true → GoodL W cal N sc es ts

theorem good_var (i : Nat) : Gd W cal N (.var i) (fun sc e => nameB e sc i) := fun sc e h => by
  refine unName (P := fun e => Good W cal N sc e _) h fun x p h => andE h fun h1 h2 => ?_
  exact Good.mkP (OkE.var h1 (dec h2)) (fun _ _ => rfl) (fun _ _ => rfl) (fun _ _ => rfl) (fun _ _ => rfl) (fun _ _ _ => rfl)
theorem good_lit (v : V) : Gd W cal N (.lit v) (litChk v) := fun sc e h => by
  cases v with
  | int i =>
    refine orE h (fun h => ?_) fun h => orE h (fun h => ?_) fun h => ?_
    · refine unConst (P := fun e => Good W cal N sc e _) h fun c k p h => intCE (P := fun c => Good W cal N sc (.Constant c k p) _) h fun j h => ?_
      rw [dec h]
      exact Good.mkP OkE.int (fun _ _ => rfl) (fun _ _ => rfl) (fun _ _ => rfl) (fun _ _ => rfl) (fun _ _ _ => rfl)
    · exact unName (P := fun e => Good W cal N sc e _) h fun x p h => andE h fun h1 h2 => Good.mkP (OkE.const h1 (dec h2)) (fun _ _ => rfl) (fun _ _ => rfl) (fun _ _ => rfl) (fun _ _ => rfl) (fun _ _ _ => rfl)
    · refine unBin (P := fun e => Good W cal N sc e _) h fun l o r p h => andE h fun h1 h => unConst (P := fun l => Good W cal N sc (.BinOp l o r p) _) h fun c k p1 h => intCE (P := fun c => Good W cal N sc (.BinOp (.Constant c k p1) o r p) _) h fun a h =>
        unConst (P := fun r => Good W cal N sc (.BinOp (.Constant (.int a) k p1) o r p) _) h fun c k2 p2 h => intCE (P := fun c => Good W cal N sc (.BinOp (.Constant (.int a) k p1) o (.Constant c k2 p2) p) _) h fun b h => andE h fun h2 h3 => andE h2 fun h4 h5 => ?_
      obtain rfl : o = .Pow := isPow_of h1
      rw [dec h3]
      exact Good.mkP (OkE.pow (orE h5 (fun h => .inl ⟨dec h4, dec h⟩) fun h => .inr ⟨dec h4, dec h⟩)) (fun _ _ => rfl) (fun _ _ => rfl) (fun _ _ => rfl) (fun _ _ => rfl) (fun _ _ _ => rfl)
  | bool a =>
    refine unConst (P := fun e => Good W cal N sc e _) h fun c k p h => boolCE (P := fun c => Good W cal N sc (.Constant c k p) _) h fun b h => ?_
    rw [dec h]
    exact Good.mkP OkE.boolC (fun _ _ => rfl) (fun _ _ => rfl) (fun _ _ => rfl) (fun _ _ => rfl) (fun _ _ _ => rfl)
  | nul =>
    refine unConst (P := fun e => Good W cal N sc e _) h fun c k p h => ?_
    rw [isNoneC_of h]
    exact Good.mkP OkE.noneC (fun _ _ => rfl) (fun _ _ => rfl) (fun _ _ => rfl) (fun _ _ => rfl) (fun _ _ _ => rfl)
  | _ => exact ff h
theorem good_bin (o : BO) {a b : T} {ca cb : CE} (ia : Gd W cal N a ca) (ib : Gd W cal N b cb) : Gd W cal N (.bin o a b) (fun sc e => optB (asBin e) fun c => decide (compOp c.2.1 = some o) && (ca sc c.1 && cb sc c.2.2)) := fun sc e h => by
  refine unBin (P := fun e => Good W cal N sc e _) h fun l op r p h => andE h fun h1 h => andE h fun h2 h3 => ?_
  exact Good.mkP (OkE.bin (ia sc _ h2).ev (ib sc _ h3).ev (dec h1)) (fun _ _ => rfl) (fun _ _ => rfl) (fun _ _ => rfl) (fun _ _ => rfl) (fun _ _ _ => rfl)
theorem good_repM {a b : T} {ca cb : CE} (ia : Gd W cal N a ca) (ib : Gd W cal N b cb) : Gd W cal N (.repM a b) (fun sc e => optB (asBin e) fun c => decide (compOp c.2.1 = some .mul) && (ca sc c.1 && cb sc c.2.2)) := fun sc e h => by
  refine unBin (P := fun e => Good W cal N sc e _) h fun l op r p h => andE h fun h1 h => andE h fun h2 h3 => ?_
  obtain rfl : op = .Mult := mult_of (dec h1)
  exact Good.mkP (OkE.repM (ia sc _ h2).ev (ib sc _ h3).ev) (fun _ _ => rfl) (fun _ _ => rfl) (fun _ _ => rfl) (fun _ _ => rfl) (fun _ _ _ => rfl)
theorem good_neg {a : T} {ca : CE} (ia : Gd W cal N a ca) : Gd W cal N (.neg a) (fun sc e => optB (asUn e) fun c => isUSub c.1 && ca sc c.2) := fun sc e h => by
  refine unUn (P := fun e => Good W cal N sc e _) h fun o x p h => andE h fun h1 h2 => ?_
  obtain rfl : o = .USub := isUSub_of h1
  exact Good.mkP (OkE.neg (ia sc _ h2).ev) (fun _ _ => rfl) (fun _ _ => rfl) (fun _ _ => rfl) (fun _ _ => rfl) (fun _ _ _ => rfl)
theorem good_not {a : T} {ca : CE} (ia : Gd W cal N a ca) : Gd W cal N (.not a) (fun sc e => optB (asUn e) fun c => isNot c.1 && ca sc c.2) := fun sc e h => by
  refine unUn (P := fun e => Good W cal N sc e _) h fun o x p h => andE h fun h1 h2 => ?_
  obtain rfl : o = .Not := isNot_of h1
  exact Good.mk' (OkE.not (ia sc _ h2).ev) (OkB.not (ia sc _ h2).tru) (fun _ _ => rfl) (fun _ _ => rfl) (fun _ _ => rfl) (fun _ _ _ => rfl)
theorem good_and {a b : T} {ca cb : CE} (ia : Gd W cal N a ca) (ib : Gd W cal N b cb) : Gd W cal N (.and a b) (kAnd ca cb) := fun sc e h => by
  refine unBoolOp (P := fun e => Good W cal N sc e _) h fun o es p h => andE h fun h1 h => ?_
  obtain rfl : o = .And := isAnd_of h1
  refine restE (P := fun es => Good W cal N sc (.BoolOp _ es p) _) h (fun x y h => andE h fun h2 h3 => ?_) fun x y z r h => andE h fun h2 h3 => ?_
  · exact Good.mk' (OkE.and (ia sc _ h2).ev (OkE.one (ib sc _ h3).ev)) (OkB.and (ia sc _ h2).tru (OkB.oneA (ib sc _ h3).tru)) (fun _ _ => rfl) (fun _ _ => rfl) (fun _ _ => rfl) (fun _ _ _ => rfl)
  · exact Good.mk' (OkE.and (ia sc _ h2).ev (ib sc _ h3).ev) (OkB.and (ia sc _ h2).tru (ib sc _ h3).tru) (fun _ _ => rfl) (fun _ _ => rfl) (fun _ _ => rfl) (fun _ _ _ => rfl)
theorem good_or {a b : T} {ca cb : CE} (ia : Gd W cal N a ca) (ib : Gd W cal N b cb) : Gd W cal N (.or a b) (kOr ca cb) := fun sc e h => by
  refine unBoolOp (P := fun e => Good W cal N sc e _) h fun o es p h => andE h fun h1 h => ?_
  obtain rfl : o = .Or := isOr_of h1
  refine restE (P := fun es => Good W cal N sc (.BoolOp _ es p) _) h (fun x y h => andE h fun h2 h3 => ?_) fun x y z r h => andE h fun h2 h3 => ?_
  · exact Good.mk' (OkE.or (ia sc _ h2).ev (OkE.one (ib sc _ h3).ev)) (OkB.or (ia sc _ h2).tru (OkB.oneO (ib sc _ h3).tru)) (fun _ _ => rfl) (fun _ _ => rfl) (fun _ _ => rfl) (fun _ _ _ => rfl)
  · exact Good.mk' (OkE.or (ia sc _ h2).ev (ib sc _ h3).ev) (OkB.or (ia sc _ h2).tru (ib sc _ h3).tru) (fun _ _ => rfl) (fun _ _ => rfl) (fun _ _ => rfl) (fun _ _ _ => rfl)
theorem good_cmp (o : CO) {a b : T} {ca cb : CE} (ia : Gd W cal N a ca) (ib : Gd W cal N b cb) : Gd W cal N (.cmp o a b) (kCmp o ca cb) := fun sc e h => by
  refine unCompare (P := fun e => Good W cal N sc e _) h fun x os ys p h => oneE (P := fun os => Good W cal N sc (.Compare x os ys p) _) h fun q h => oneE (P := fun ys => Good W cal N sc (.Compare x [q] ys p) _) h fun y h => andE h fun hm h => andE h fun h1 h => andE h fun h2 h3 => ?_
  exact Good.mk' (OkE.cmp (notE hm) (ia sc _ h2).ev (ib sc _ h3).ev (dec h1)) (OkB.cmp (notE hm) (ia sc _ h2).ev (ib sc _ h3).ev (dec h1)) (fun _ _ => rfl) (fun _ _ => rfl) (fun _ _ => rfl) (fun _ _ _ => rfl)
theorem good_chain (o o' : CO) {a b c : T} {ca cb cc : CE} (ia : Gd W cal N a ca) (ib : Gd W cal N b cb) (ic : Gd W cal N c cc) : Gd W cal N (.chain o o' a b c) (kChain o o' ca cb cc) := fun sc e h => by
  refine unCompare (P := fun e => Good W cal N sc e _) h fun x os ys p h => twoE (P := fun os => Good W cal N sc (.Compare x os ys p) _) h fun q q2 h => twoE (P := fun ys => Good W cal N sc (.Compare x [q, q2] ys p) _) h fun y z h => andE h fun hm h => andE h fun h1 h => andE h fun h2 h => andE h fun h3 h => andE h fun h4 h5 => ?_
  exact Good.mk' (OkE.chain (notE hm) (ia sc _ h3).ev (ib sc _ h4).ev (ic sc _ h5).ev (dec h1) (dec h2)) (OkB.chain (notE hm) (ia sc _ h3).ev (ib sc _ h4).ev (ic sc _ h5).ev (dec h1) (dec h2)) (fun _ _ => rfl) (fun _ _ => rfl) (fun _ _ => rfl) (fun _ _ _ => rfl)
theorem good_isNone {a : T} {ca : CE} (ia : Gd W cal N a ca) (pos : Bool) : Gd W cal N (.isNone a pos) (kIsNone ca pos) := fun sc e h => by
  refine unCompare (P := fun e => Good W cal N sc e _) h fun x os ys p h => oneE (P := fun os => Good W cal N sc (.Compare x os ys p) _) h fun q h => oneE (P := fun ys => Good W cal N sc (.Compare x [q] ys p) _) h fun y h => andE h fun h1 h => andE h fun h2 h3 => unConst (P := fun y => Good W cal N sc (.Compare x [q] [y] p) _) h2 fun c k p2 h2 => ?_
  rw [isNoneC_of h2]
  exact Good.mk' (OkE.isNone (isOp_of h1) (ia sc _ h3).ev) (OkB.isNone (isOp_of h1) (ia sc _ h3).ev) (fun _ _ => rfl) (fun _ _ => rfl) (fun _ _ => rfl) (fun _ _ _ => rfl)
theorem good_ite {a b c : T} {ca cb cc : CE} (ia : Gd W cal N a ca) (ib : Gd W cal N b cb) (ic : Gd W cal N c cc) : Gd W cal N (.ite a b c) (fun sc e => optB (asIf e) fun d => ca sc d.1 && (cb sc d.2.1 && cc sc d.2.2)) := fun sc e h => by
  refine unIf (P := fun e => Good W cal N sc e _) h fun x y z p h => andE h fun h1 h => andE h fun h2 h3 => ?_
  exact Good.mk' (OkE.ite (ia sc _ h1).tru (ib sc _ h2).ev (ic sc _ h3).ev) (OkB.ite (ia sc _ h1).tru (ib sc _ h2).tru (ic sc _ h3).tru) (fun _ _ => rfl) (fun _ _ => rfl) (fun _ _ => rfl) (fun _ _ _ => rfl)
theorem good_seq (tup mt : Bool) {ts : Ts} {cl : CL} (il : GdL W cal N ts cl) : Gd W cal N (.seq tup mt ts) (kSeq tup cl) := fun sc e h => by
  cases tup with
  | true => exact unTuple (P := fun e => Good W cal N sc e _) h fun xs k p h => Good.mkP (OkE.seqT (tup := true) rfl (il sc _ h).ev) (fun _ _ => rfl) (fun _ _ => rfl) (fun _ _ => rfl) (fun _ _ => rfl) (fun _ _ _ => rfl)
  | false => exact unList (P := fun e => Good W cal N sc e _) h fun xs p h => Good.mkP (OkE.seqT (tup := false) (kk := 0) rfl (il sc _ h).ev) (fun _ _ => rfl) (fun _ _ => rfl) (fun _ _ => rfl) (fun _ _ => rfl) (fun _ _ _ => rfl)
theorem good_emptyDict  : Gd W cal N (.emptyDict) (fun _ e => optB (asDict e) fun c => c.1.isEmpty && c.2.isEmpty) := fun sc e h => by
  refine unDict (P := fun e => Good W cal N sc e _) h fun ks vs p h => andE h fun h1 h2 => nilE (P := fun ks => Good W cal N sc (.Dict ks vs p) _) h1 (nilE (P := fun vs => Good W cal N sc (.Dict [] vs p) _) h2 ?_)
  exact Good.mkP (OkE.emptyDict) (fun _ _ => rfl) (fun _ _ => rfl) (fun _ _ => rfl) (fun _ _ => rfl) (fun _ _ _ => rfl)
theorem part_ok {o : Option Expr} {t : T} {ct : CE} {sc : Scope} (it : Gd W cal N t ct) (h : partB o t (ct sc) = true) : OkO W cal N sc o t := by
  cases o with
  | none => rw [isNul_of h]; intro _; exact OkO.none
  | some l => exact OkO.some (it sc l h).ev
theorem good_slice {a b c : T} {ca cb cc : CE} (ia : Gd W cal N a ca) (ib : Gd W cal N b cb) (ic : Gd W cal N c cc) : Gd W cal N (.slice a b c) (kSlice b c ca cb cc) := fun sc e h => by
  refine unSub (P := fun e => Good W cal N sc e _) h fun x s p h => unSlice (P := fun s => Good W cal N sc (.Subscript x s p) _) h fun l u st p2 h => andE h fun h0 h => andE h fun h1 h => andE h fun h2 h3 => ?_
  obtain rfl : st = none := Option.isNone_iff_eq_none.mp h0
  exact Good.mkP (OkE.slice (ia sc _ h1).ev (part_ok ib h2) (part_ok ic h3)) (fun _ _ => rfl) (fun _ _ => rfl) (fun _ _ => rfl) (fun _ _ => rfl) (fun _ _ _ => rfl)
theorem good_idx {a b : T} {ca cb : CE} (ia : Gd W cal N a ca) (ib : Gd W cal N b cb) : Gd W cal N (.idx a b) (fun sc e => optB (asSub e) fun c => ca sc c.1 && cb sc c.2) := fun sc e h => by
  refine unSub (P := fun e => Good W cal N sc e _) h fun x y p h => andE h fun h1 h2 => ?_
  exact Good.mkP (OkE.idx (ib sc _ h2).sub (ia sc _ h1).ev (ib sc _ h2).ev) (fun _ _ => rfl) (fun _ _ => rfl) (fun _ _ => rfl) (fun _ _ => rfl) (fun _ _ _ => rfl)
theorem good_attr {a : T} {ca : CE} (ia : Gd W cal N a ca) (k : Nat) : Gd W cal N (.attr a k) (fun sc e => optB (asAttr e) fun c => plainBase c.1 && (decide (attrCode c.2.1 = some k) && ca sc c.1)) := fun sc e h => by
  refine unAttr (P := fun e => Good W cal N sc e _) h fun x y p h => andE h fun h1 h => andE h fun h2 h3 => ?_
  exact Good.mkP (OkE.attr h1 (ia sc _ h3).ev (dec h2)) (fun _ _ => rfl) (fun _ _ => rfl) (fun _ _ => rfl) (fun _ _ => rfl) (fun _ _ _ => rfl)
theorem good_append {a b : T} {ca cb : CE} (ia : Gd W cal N a ca) (ib : Gd W cal N b cb) : Gd W cal N (.append a b) (kAppend ca cb) := fun sc e h => by
  refine unCall0 (P := fun e => Good W cal N sc e _) h fun fn es p h => unAttr (P := fun fn => Good W cal N sc (.Call fn es [] p) _) h fun x y p2 h => oneE (P := fun es => Good W cal N sc (.Call (.Attribute x y p2) es [] p) _) h fun z h => andE h fun hm h => andE h fun h1 h => andE h fun h2 h3 => ?_
  exact Good.mkP (OkE.append hm (dec h1) (ia sc _ h2).ev (ib sc _ h3).star (ib sc _ h3).ev) (fun _ _ => rfl) (fun _ _ => rfl) (fun _ _ => rfl) (fun _ _ => rfl) (fun _ _ _ => rfl)
theorem good_get {a b c : T} {ca cb cc : CE} (ia : Gd W cal N a ca) (ib : Gd W cal N b cb) (ic : Gd W cal N c cc) : Gd W cal N (.get a b c) (kGet ca cb cc) := fun sc e h => by
  refine unCall0 (P := fun e => Good W cal N sc e _) h fun fn es p h => unAttr (P := fun fn => Good W cal N sc (.Call fn es [] p) _) h fun x y p2 h => twoE (P := fun es => Good W cal N sc (.Call (.Attribute x y p2) es [] p) _) h fun z z2 h => andE h fun hm h => andE h fun h1 h => andE h fun h2 h => andE h fun h3 h4 => ?_
  exact Good.mkP (OkE.get hm (dec h1) (ia sc _ h2).ev (ib sc _ h3).star (ib sc _ h3).ev (ic sc _ h4).star (ic sc _ h4).ev) (fun _ _ => rfl) (fun _ _ => rfl) (fun _ _ => rfl) (fun _ _ => rfl) (fun _ _ _ => rfl)
theorem good_meth (H : CalOk W N cal) (f : Nat) {a : T} {ca : CE} (ia : Gd W cal N a ca) {ts : Ts} {cl : CL} (il : GdL W cal N ts cl) : Gd W cal N (.meth f a ts) (kMeth f ca cl) := fun sc e h => by
  refine unCall0 (P := fun e => Good W cal N sc e _) h fun fn es p h => unAttr (P := fun fn => Good W cal N sc (.Call fn es [] p) _) h fun x y p2 h => andE h fun hm h => andE h fun h1 h => andE h fun h2 h => andE h fun h3 h4 => ?_
  exact Good.mkP (OkE.meth H hm (dec h1) h2 (ia sc _ h3).ev (il sc _ h4).ev) (fun _ _ => rfl) (fun _ _ => rfl) (fun _ _ => rfl) (fun _ _ => rfl) (fun _ _ _ => rfl)
theorem good_new (H : CalOk W N cal) : Gd W cal N (.new) kNew := fun sc e h => by
  refine unCall0 (P := fun e => Good W cal N sc e _) h fun fn es p h => unName (P := fun fn => Good W cal N sc (.Call fn es [] p) _) h fun x p2 h => andE h fun h1 h => nilE (P := fun es => Good W cal N sc (.Call (.Name x p2) es [] p) _) h1 (andE h fun h2 h3 => ?_)
  exact Good.mkP (OkE.new H h2 (dec h3)) (fun _ _ => rfl) (fun _ _ => rfl) (fun _ _ => rfl) (fun _ _ => rfl) (fun _ _ _ => rfl)
theorem good_call (H : CalOk W N cal) (k : Nat) {ts : Ts} {cl : CL} (il : GdL W cal N ts cl) : Gd W cal N (.call k ts) (kCall k cl) := fun sc e h => by
  refine unCall0 (P := fun e => Good W cal N sc e _) h fun fn es p h => unName (P := fun fn => Good W cal N sc (.Call fn es [] p) _) h fun x p2 h => andE h fun h1 h => andE h fun h2 h => andE h fun h3 h4 => ?_
  exact Good.mkP (OkE.call H h1 (dec h2) h3 (fn_not_debug (dec h2)) (il sc _ h4).ev) (fun _ _ => rfl) (fun _ _ => rfl) (fun _ _ => rfl) (fun _ _ => rfl) (fun _ _ _ => rfl)
theorem good_prim (p : Prim) (mt : Bool) {ts : Ts} {cl : CL} (il : GdL W cal N ts cl) : Gd W cal N (.prim p mt ts) (kPrim p mt ts cl) := fun sc e h => by
  refine unCall0 (P := fun e => Good W cal N sc e _) h fun fn es p1 h => unName (P := fun fn => Good W cal N sc (.Call fn es [] p1) _) h fun x fp h => andE h fun hg h => orE h (fun h => andE h fun h1 h2 => ?_) fun h => andE h fun h1 h => andE h fun h2 h => ?_
  · exact Good.mkP (OkE.prim hg (dec h1) (il sc _ h2).ev) (fun _ _ => rfl) (fun _ _ => rfl) (fun _ _ => rfl) (fun _ _ => rfl) (fun _ _ _ => rfl)
  · obtain rfl := notE h2
    revert il
    refine oneTE (P := fun ts => GdL W cal N ts cl → Good W cal N sc _ (.prim p false ts)) h fun t h il => twoE (P := fun es => Good W cal N sc (.Call (.Name x fp) es [] p1) _) h fun a d h => andE h fun h3 h => ?_
    have g := (il sc _ h3).one a t rfl rfl
    refine orE h (fun h => unName (P := fun d => Good W cal N sc (.Call (.Name x fp) [a, d] [] p1) _) h fun k kp h => andE h fun h4 h => orE h (fun h => andE h fun h5 h6 => ?_) fun h => andE h fun h5 h6 => ?_) fun h =>
      unTuple (P := fun d => Good W cal N sc (.Call (.Name x fp) [a, d] [] p1) _) h fun cs k1 p2 h => twoE (P := fun cs => Good W cal N sc (.Call (.Name x fp) [a, .Tuple cs k1 p2] [] p1) _) h fun q r h =>
      unName (P := fun q => Good W cal N sc (.Call (.Name x fp) [a, .Tuple [q, r] k1 p2] [] p1) _) h fun k kp h => unName (P := fun r => Good W cal N sc (.Call (.Name x fp) [a, .Tuple [.Name k kp, r] k1 p2] [] p1) _) h fun l lp h => andE h fun h4 h => andE h fun h5 h6 => andE h5 fun h7 h8 => andE h6 fun h9 h10 => ?_
    · rw [dec h5]; exact Good.mkP (OkE.isInt hg (dec h1) h4 (dec h6) g.star g.ev) (fun _ _ => rfl) (fun _ _ => rfl) (fun _ _ => rfl) (fun _ _ => rfl) (fun _ _ _ => rfl)
    · rw [dec h5]; exact Good.mkP (OkE.isBool hg (dec h1) h4 (dec h6) g.star g.ev) (fun _ _ => rfl) (fun _ _ => rfl) (fun _ _ => rfl) (fun _ _ => rfl) (fun _ _ _ => rfl)
    · rw [dec h4]; exact Good.mkP (OkE.isSeq hg (dec h1) h7 (dec h8) h9 (dec h10) g.star g.ev) (fun _ _ => rfl) (fun _ _ => rfl) (fun _ _ => rfl) (fun _ _ => rfl) (fun _ _ _ => rfl)
theorem cond_ok {ifs : List Expr} {t : T} {ct : CE} {sc : Scope} (it : Gd W cal N t ct) (h : condB ifs t (ct sc) = true) : OkT W cal N sc ifs t := by
  cases ifs with
  | nil => rw [isTrueT_of h]; intro _; exact OkT.nil W cal N
  | cons x r => exact andE h fun h1 h2 => nilE (P := fun r => OkT W cal N sc (x :: r) t) h1 (OkT.one W cal N (it sc x h2).tru)
theorem good_comp (mt : Bool) (i : Nat) {a b c : T} {ca cb cc : CE} (ia : Gd W cal N a ca) (ib : Gd W cal N b cb) (ic : Gd W cal N c cc) : Gd W cal N (.comp mt i a b c) (kComp i c ca cb cc) := fun sc e h => by
  refine unComp (P := fun e => Good W cal N sc e _) h fun x gs scope p h => oneE (P := fun gs => Good W cal N sc (.ListComp x gs scope p) _) h fun g h => ?_
  obtain ⟨tg, iter, ifs, asy⟩ := g
  refine unName (P := fun tg => Good W cal N sc (.ListComp x [⟨tg, iter, ifs, asy⟩] scope p) _) h fun y py h => andE h fun h0 h => andE h fun h1 h => andE h fun h2 h => andE h fun h3 h => andE h fun h4 h5 => ?_
  obtain rfl : asy = 0 := dec h0
  have g := ia sc _ h3
  exact Good.mkC (OkE.comp g.ev (ib scope _ h4).ev (cond_ok ic h5) g.fold (compOk_of h1) (code_get (dec h2))) (.inl (OkU.comp g.ev (ib scope _ h4).ev (cond_ok ic h5) g.fold (compOk_of h1) (code_get (dec h2))))
theorem subB_e {e : Expr} {sc : Scope} {i j : Nat} {P : Expr → Prop} (h : subB e sc i j = true) (k : ∀ a b p q r, isVar sc a = true → nms[i]? = some a → isVar sc b = true → nms[j]? = some b → P (.Subscript (.Name a p) (.Name b q) r)) : P e :=
  unSub h fun x y r h => andE h fun h1 h2 => unName (P := fun x => P (.Subscript x y r)) h1 fun a p h1 => unName (P := fun y => P (.Subscript (.Name a p) y r)) h2 fun b q h2 => andE h1 fun a1 a2 => andE h2 fun b1 b2 => k a b p q r a1 (code_get (dec a2)) b1 (code_get (dec b2))
theorem good_compD (i : Nat) (cond : T) {a : T} {ca : CE} (ia : Gd W cal N a ca) : Gd W cal N (.compD i a cond) (kCompD i cond ca) := fun sc e h => by
  refine unComp (P := fun e => Good W cal N sc e _) h fun x gs scope p h => oneE (P := fun gs => Good W cal N sc (.ListComp x gs scope p) _) h fun g h => ?_
  obtain ⟨tg, iter, ifs, asy⟩ := g
  refine unName (P := fun tg => Good W cal N sc (.ListComp x [⟨tg, iter, ifs, asy⟩] scope p) _) h fun y py h => andE h fun h0 h => andE h fun hx h => unName (P := fun x => Good W cal N sc (.ListComp x [⟨.Name y py, iter, ifs, asy⟩] scope p) _) hx fun y2 py2 hx => andE h fun h1 h => andE h fun h2 h => andE h fun h3 h =>
    oneE (P := fun ifs => Good W cal N sc (.ListComp _ [⟨.Name y py, iter, ifs, asy⟩] scope p) _) h fun q h => unCompare (P := fun q => Good W cal N sc (.ListComp _ [⟨.Name y py, iter, [q], asy⟩] scope p) _) h fun l os rs p7 h => oneE (P := fun os => Good W cal N sc (.ListComp _ [⟨.Name y py, iter, [.Compare l os rs p7], asy⟩] scope p) _) h fun o h =>
    oneE (P := fun rs => Good W cal N sc (.ListComp _ [⟨.Name y py, iter, [.Compare l [o] rs p7], asy⟩] scope p) _) h fun r h => andE h fun hne h => neE (P := fun cond => Good W cal N sc _ (.compD i a cond)) h fun s t h => idxE (P := fun s => Good W cal N sc _ (.compD i a (.cmp .ne s t))) h fun s1 s2 h => varE (P := fun s1 => Good W cal N sc _ (.compD i a (.cmp .ne (.idx s1 s2) t))) h fun ka h =>
    varE (P := fun s2 => Good W cal N sc _ (.compD i a (.cmp .ne (.idx (.var ka) s2) t))) h fun kb h => idxE (P := fun t => Good W cal N sc _ (.compD i a (.cmp .ne (.idx (.var ka) (.var kb)) t))) h fun t1 t2 h => varE (P := fun t1 => Good W cal N sc _ (.compD i a (.cmp .ne (.idx (.var ka) (.var kb)) (.idx t1 t2)))) h fun kc h =>
    varE (P := fun t2 => Good W cal N sc _ (.compD i a (.cmp .ne (.idx (.var ka) (.var kb)) (.idx (.var kc) t2)))) h fun kd h => andE h fun hl hr => subB_e (P := fun l => Good W cal N sc (.ListComp _ [⟨.Name y py, iter, [.Compare l [o] [r] p7], asy⟩] scope p) _) hl fun a1 a2 p1 p2 p3 u1 u2 u3 u4 =>
    subB_e (P := fun r => Good W cal N sc (.ListComp _ [⟨.Name y py, iter, [.Compare _ [o] [r] p7], asy⟩] scope p) _) hr fun a3 a4 p4 p5 p6 v1 v2 v3 v4 => ?_
  obtain rfl : asy = 0 := dec h0
  obtain rfl : y2 = y := dec hx
  obtain rfl := isNe_of hne
  have g := ia sc _ h3
  exact Good.mkC (OkE.compD g.ev g.fold (compOk_of h1) (code_get (dec h2)) u1 u2 u3 u4 v1 v2 v3 v4) (.inr ⟨_, _, _, rfl⟩)
theorem good_nil : GdL W cal N .nil (fun _ es => es.isEmpty) := fun sc es h => nilE (P := fun es => GoodL W cal N sc es .nil) h ⟨OkL.nil, fun _ _ e => nomatch e⟩
theorem good_cons {a : T} {ca : CE} (ia : Gd W cal N a ca) {r : Ts} {cr : CL} (ir : GdL W cal N r cr) : GdL W cal N (.cons a r) (kCons ca cr) := fun sc es h => by
  cases es with
  | nil => exact ff h
  | cons e es =>
    refine andE h fun h1 h2 => ⟨OkL.cons (fun env => (ia sc e h1).star env _) (ia sc e h1).ev (ir sc es h2).ev, fun e' t q1 q2 => ?_⟩
    cases q1
    cases q2
    exact ia sc e h1
theorem goodT (H : CalOk W N cal) (t : T) : Gd W cal N t (chk t) := @T.rec (fun t => Gd W cal N t (chk t)) (fun t => GdL W cal N t (chks t)) good_var good_lit (fun o _ _ a b => good_bin o a b) (fun _ a => good_neg a) (fun _ a => good_not a) (fun _ _ a b => good_and a b) (fun _ _ a b => good_or a b) (fun o _ _ a b => good_cmp o a b)
  (fun o p _ _ _ a b c => good_chain o p a b c) (fun _ pos a => good_isNone a pos) (fun _ _ _ c a b => good_ite c a b) (fun tup mt _ es => good_seq tup mt es) (fun _ _ a i => good_idx a i) (fun _ _ _ a b c => good_slice a b c) (fun f _ es => good_call H f es) (fun f _ _ o es => good_meth H f o es) (good_new H)
  (fun p mt _ es => good_prim p mt es) (fun _ _ o x => good_append o x) (fun _ _ _ o k d => good_get o k d) (fun _ k o => good_attr o k) (fun mt x _ _ _ it elt cond => good_comp mt x it elt cond) (fun x _ cond it _ => good_compD x cond it) good_emptyDict (fun _ _ a b => good_repM a b) good_nil (fun _ _ a r => good_cons a r) t
end
end Mine
end

section
set_option autoImplicit false
set_option maxRecDepth 100000
namespace Mine
open PySem PySem.W PyProof.Rows

noncomputable def targ (sc : Scope) (i : Nat) (e : Expr) : Bool := optB (asName e) fun x => storable sc x && decide (code x = some i)
theorem targE {sc : Scope} {i : Nat} {e : Expr} {P : Expr → Prop} (h : targ sc i e = true) (k : ∀ x p, storable sc x = true → nms[i]? = some x → P (.Name x p)) : P e := unName h fun x p h => andE h fun h1 h2 => k x p h1 (code_get (dec h2))
noncomputable def targ2 (sc : Scope) (xs : List Nat) (e : Expr) : Bool := optB (asTuple e) fun ts => twoB ts fun a b => twoB xs fun i j => (!decide (i = j)) && (targ sc i a && targ sc j b)
theorem targ2E {sc : Scope} {xs : List Nat} {e : Expr} {P : Expr → List Nat → Prop} (h : targ2 sc xs e = true) (k : ∀ x y p q n tp i j, i ≠ j → storable sc x = true → nms[i]? = some x → storable sc y = true → nms[j]? = some y → P (.Tuple [.Name x p, .Name y q] n tp) [i, j]) : P e xs :=
  unTuple (P := fun e => P e xs) h fun ts n tp h => twoE (P := fun ts => P (.Tuple ts n tp) xs) h fun a b h => twoE (P := fun xs => P (.Tuple [a, b] n tp) xs) h fun i j h => andE h fun h1 h => andE h fun h2 h3 =>
    targE (P := fun a => P (.Tuple [a, b] n tp) [i, j]) h2 fun x p a1 a2 => targE (P := fun b => P (.Tuple [.Name x p, b] n tp) [i, j]) h3 fun y q b1 b2 => k x y p q n tp i j (of_decide_eq_false (notE h1)) a1 a2 b1 b2
noncomputable abbrev KSt := Scope → Stmt → Bool
noncomputable abbrev KSs := Scope → List Stmt → Bool
noncomputable def asgB (s : Stmt) (f : Expr → Expr → Bool) : Bool := optB (asAssign s) fun c => oneB c.1 fun x => f x c.2.1
theorem asgE {s : Stmt} {f : Expr → Expr → Bool} {P : Stmt → Prop} (h : asgB s f = true) (k : ∀ x e p, f x e = true → P (.Assign [x] e p)) : P s := unAssign h fun ts e p h => oneE (P := fun ts => P (.Assign ts e p)) h fun x h => k x e p h
noncomputable def qkAssign (i : Nat) (t : T) : KSt := fun sc s => asgB s fun x e => targ sc i x && ((!t.isD) && chk t sc e)
noncomputable def qkUnpack (xs : List Nat) (t : T) : KSt := fun sc s => asgB s fun x e => targ2 sc xs x && ((!badTuple e) && chk t sc e)
noncomputable def qkPairIdx (o₁ i₁ o₂ i₂ a b : T) : KSt := fun sc s => asgB s fun x v => optB (asTuple x) fun xs => twoB xs fun d e => optB (asSub d) fun l => optB (asSub e) fun r => optB (asTuple v) fun ys => twoB ys fun y z =>
  (chk o₁ sc l.1 && chk i₁ sc l.2) && ((chk o₂ sc r.1 && chk i₂ sc r.2) && (chk a sc y && chk b sc z))
noncomputable def qkSetIdx (o i t : T) : KSt := fun sc s => asgB s fun x e => optB (asSub x) fun l => (chk o sc l.1 && chk i sc l.2) && chk t sc e
noncomputable def qkSetAttr (o : T) (k : Nat) (t : T) : KSt := fun sc s => asgB s fun x e => optB (asAttr x) fun l => (chk o sc l.1 && decide (attrCode l.2.1 = some k)) && chk t sc e
noncomputable def qkAugName (i : Nat) (o : BO) (t : T) : KSt := fun sc s => optB (asAug s) fun c => addSub c.2.1 && (targ sc i c.1 && (decide (compOp c.2.1 = some o) && chk t sc c.2.2))
noncomputable def qkAugAttr (ob : T) (k : Nat) (o : BO) (t : T) : KSt := fun sc s => optB (asAug s) fun c => addSub c.2.1 && optB (asAttr c.1) fun l => (chk ob sc l.1 && decide (attrCode l.2.1 = some k)) && (decide (compOp c.2.1 = some o) && chk t sc c.2.2)
noncomputable def qkFor (xs : List Nat) (it : T) (b : KSs) : KSt := fun sc s => optB (asFor s) fun c => c.2.2.2.isEmpty && ((targ2 sc xs c.1 || oneB xs fun i => targ sc i c.1) && (chk it sc c.2.1 && b sc c.2.2.1))
noncomputable def qkIf (c : T) (a b : KSs) : KSt := fun sc s => optB (asIfS s) fun d => chk c sc d.1 && (a sc d.2.1 && b sc d.2.2)
noncomputable def qkRet (t : T) : KSt := fun sc s => optB (asRet s) fun o => optB o fun e => chk t sc e
noncomputable def qkExpr (t : T) : KSt := fun sc s => optB (asExprS s) fun e => optB (asCall e) fun _ => chk t sc e
noncomputable def qkConsS (a : KSt) (r : KSs) : KSs := fun sc ss => match ss with | s :: ss => a sc s && r sc ss | [] => false
noncomputable def chkS (t : TSs) : KSs := @TSs.rec (fun _ => KSt) (fun _ => KSs) qkAssign qkUnpack qkPairIdx qkSetIdx qkSetAttr qkAugName qkAugAttr (fun xs it _ b => qkFor xs it b) (fun c _ _ a b => qkIf c a b) qkRet qkExpr (fun _ s => isBrk s) (fun _ s => isRaise s) (fun _ ss => ss.isEmpty) (fun _ _ a r => qkConsS a r) t

theorem swapped_pair {o₁ i₁ o₂ i₂ a b : Expr} {p q tp tp' : Pos} {k k' : Nat} {env : Env} : swappedStores [.Tuple [.Subscript o₁ i₁ p, .Subscript o₂ i₂ q] k tp] (.Tuple [a, b] k' tp') env = pure none := by
  unfold swappedStores
  dsimp only
  split
  · rfl
  · split
    · rfl
    · generalize hn : List.filterMap _ [Expr.Subscript o₁ i₁ p, Expr.Subscript o₂ i₂ q] = names
      have : names = [] := by rw [← hn]; rfl
      subst this
      rfl

section
variable {prog : Program} {w : World} {W : Wd prog w} {cal : PC} {N : Nat} {sc : Scope}
theorem Good.sole {e : Expr} {t : T} (g : Good W cal N sc e t) {tgt : Expr} (h : ∀ x p, tgt ≠ .Name x p) : ∀ env line, swapsWithSole [tgt] e line env = pure false := fun env line => g.other env tgt line h


theorem S_assign {x : Str} {i : Nat} {p pos} {e : Expr} {t : T} (hx : storable sc x = true) (hi : nms[i]? = some x) (hsw : ∀ env, swapsWith e (some (.Name x p)) pos.line env = pure false) (g : Good W cal N sc e t) : OkS W cal N sc (.Assign [.Name x p] e pos) (.assign i t) := OkS.assign hx hi hsw g.ev
theorem S_assignC {x : Str} {i : Nat} {p pos} {e : Expr} {t : T} (hx : storable sc x = true) (hi : nms[i]? = some x) (hsw : ∀ env, ∃ b, swapsWith e (some (.Name x p)) pos.line env = pure b) (g : Good W cal N sc e t) (hu : OkU W cal N sc e t) : OkS W cal N sc (.Assign [.Name x p] e pos) (.assign i t) := OkS.assignC hx hi hsw g.ev hu
theorem S_unpack {x y : Str} {i j : Nat} {p q k tp pos} {e : Expr} {t : T} (hx : storable sc x = true) (hi : nms[i]? = some x) (hy : storable sc y = true) (hj : nms[j]? = some y) (hne : i ≠ j) (hb : badTuple e = false) (hsw : ∀ env, swapsWithSole [.Tuple [.Name x p, .Name y q] k tp] e pos.line env = pure false) (g : Good W cal N sc e t) :
    OkS W cal N sc (.Assign [.Tuple [.Name x p, .Name y q] k tp] e pos) (.unpack [i, j] t) := OkS.unpack hx hi hy hj hne hb hsw g.ev
variable (W cal N) in
noncomputable def GS (t : TS) (c : KSt) : Prop := ∀ sc s, c sc s = true → OkS W cal N sc s t
variable (W cal N) in
noncomputable def GSs (t : TSs) (c : KSs) : Prop := ∀ sc s, c sc s = true → OkSs W cal N sc s t
theorem gs_assign (H : CalOk W N cal) (i : Nat) (t : T) : GS W cal N (.assign i t) (qkAssign i t) := fun sc s h => by
  refine asgE (P := fun s => OkS W cal N sc s _) h fun x e p h => andE h fun h1 h => andE h fun h2 h3 => targE (P := fun x => OkS W cal N sc (.Assign [x] e p) _) h1 fun y q a1 a2 => ?_
  have g := goodT H t sc _ h3
  rcases g.sw with hs | ⟨hs, hu | ⟨x, it, c, he⟩⟩
  · intro _; exact S_assign (p := q) (pos := p) a1 a2 (fun env => hs env _ _) g
  · intro _; exact S_assignC (p := q) (pos := p) a1 a2 (fun env => hs env _ _ _) g hu
  · subst he; cases h2
theorem gs_unpack (H : CalOk W N cal) (xs : List Nat) (t : T) : GS W cal N (.unpack xs t) (qkUnpack xs t) := fun sc s h => by
  refine asgE (P := fun s => OkS W cal N sc s _) h fun x e p h => andE h fun h1 h => andE h fun h2 h3 => targ2E (P := fun x xs => OkS W cal N sc (.Assign [x] e p) (.unpack xs t)) h1 fun x y p1 q1 n tp i j hne a1 a2 b1 b2 => ?_
  have g := goodT H t sc _ h3
  intro _; exact S_unpack (p := p1) (q := q1) (k := n) (tp := tp) (pos := p) a1 a2 b1 b2 hne (notE h2) (fun env => g.sole (by intro x p h; cases h) env _) g
theorem gs_pairIdx (H : CalOk W N cal) (o₁ i₁ o₂ i₂ a b : T) : GS W cal N (.pairIdx o₁ i₁ o₂ i₂ a b) (qkPairIdx o₁ i₁ o₂ i₂ a b) := fun sc s h =>
  asgE (P := fun s => OkS W cal N sc s _) h fun x v p h => unTuple (P := fun x => OkS W cal N sc (.Assign [x] v p) _) h fun xs n tp h => twoE (P := fun xs => OkS W cal N sc (.Assign [.Tuple xs n tp] v p) _) h fun d e h => unSub (P := fun d => OkS W cal N sc (.Assign [.Tuple [d, e] n tp] v p) _) h fun l1 l2 p1 h =>
    unSub (P := fun e => OkS W cal N sc (.Assign [.Tuple [_, e] n tp] v p) _) h fun r1 r2 p2 h => unTuple (P := fun v => OkS W cal N sc (.Assign _ v p) _) h fun ys n2 tp2 h => twoE (P := fun ys => OkS W cal N sc (.Assign _ (.Tuple ys n2 tp2) p) _) h fun y z h => andE h fun h1 h => andE h fun h2 h3 => andE h1 fun h4 h5 => andE h2 fun h6 h7 => andE h3 fun h8 h9 =>
    OkS.pairIdx (goodT H o₁ sc _ h4).ev (goodT H i₁ sc _ h5).ev (goodT H o₂ sc _ h6).ev (goodT H i₂ sc _ h7).ev (goodT H a sc _ h8).ev (goodT H b sc _ h9).ev (goodT H a sc _ h8).star (goodT H b sc _ h9).star fun env => swapped_pair
theorem gs_setIdx (H : CalOk W N cal) (o i t : T) : GS W cal N (.setIdx o i t) (qkSetIdx o i t) := fun sc s h =>
  asgE (P := fun s => OkS W cal N sc s _) h fun x v p h => unSub (P := fun x => OkS W cal N sc (.Assign [x] v p) _) h fun l1 l2 p1 h => andE h fun h1 h3 => andE h1 fun h1 h2 => OkS.setIdx (fun env => (goodT H t sc _ h3).other env _ _ (by intro x p h; cases h)) (goodT H o sc _ h1).ev (goodT H i sc _ h2).ev (goodT H t sc _ h3).ev
theorem gs_setAttr (H : CalOk W N cal) (o : T) (k : Nat) (t : T) : GS W cal N (.setAttr o k t) (qkSetAttr o k t) := fun sc s h =>
  asgE (P := fun s => OkS W cal N sc s _) h fun x v p h => unAttr (P := fun x => OkS W cal N sc (.Assign [x] v p) _) h fun l1 l2 p1 h => andE h fun h1 h3 => andE h1 fun h1 h2 => OkS.setAttr (fun env => (goodT H t sc _ h3).other env _ _ (by intro x p h; cases h)) (dec h2) (goodT H o sc _ h1).ev (goodT H t sc _ h3).ev
theorem gs_augName (H : CalOk W N cal) (i : Nat) (o : BO) (t : T) : GS W cal N (.augName i o t) (qkAugName i o t) := fun sc s h =>
  unAug (P := fun s => OkS W cal N sc s _) h fun x op e p h => andE h fun h1 h => andE h fun h2 h => andE h fun h3 h4 => targE (P := fun x => OkS W cal N sc (.AugAssign x op e p) _) h2 fun y q a1 a2 => OkS.augName a1 a2 (dec h3) (addSub_of h1) (goodT H t sc _ h4).ev
theorem gs_augAttr (H : CalOk W N cal) (ob : T) (k : Nat) (o : BO) (t : T) : GS W cal N (.augAttr ob k o t) (qkAugAttr ob k o t) := fun sc s h =>
  unAug (P := fun s => OkS W cal N sc s _) h fun x op e p h => andE h fun h1 h => unAttr (P := fun x => OkS W cal N sc (.AugAssign x op e p) _) h fun l1 l2 p1 h => andE h fun h2 h3 => andE h2 fun h4 h5 => andE h3 fun h6 h7 => OkS.augAttr (dec h5) (goodT H ob sc _ h4).ev (dec h6) (addSub_of h1) (goodT H t sc _ h7).ev
theorem gs_for (H : CalOk W N cal) (xs : List Nat) (it : T) {b : TSs} {cb : KSs} (ib : GSs W cal N b cb) : GS W cal N (.forin xs it b) (qkFor xs it cb) := fun sc s h =>
  unFor (P := fun s => OkS W cal N sc s _) h fun x e body els p h => andE h fun h1 h => andE h fun h2 h => andE h fun h3 h4 => nilE (P := fun els => OkS W cal N sc (.For x e body els p) _) h1 <|
    orE h2 (fun h2 => targ2E (P := fun x xs => OkS W cal N sc (.For x e body [] p) (.forin xs it b)) h2 fun x y p1 q1 n tp i j hne a1 a2 b1 b2 => OkS.forin (goodT H it sc _ h3).fold (OkTgt.two a1 a2 b1 b2) (goodT H it sc _ h3).ev (ib sc _ h4))
      fun h2 => oneE (P := fun xs => OkS W cal N sc (.For x e body [] p) (.forin xs it b)) h2 fun i h2 => targE (P := fun x => OkS W cal N sc (.For x e body [] p) _) h2 fun x q a1 a2 => OkS.forin (goodT H it sc _ h3).fold (OkTgt.name a1 a2) (goodT H it sc _ h3).ev (ib sc _ h4)
theorem gs_ite (H : CalOk W N cal) (c : T) {a b : TSs} {ca cb : KSs} (ia : GSs W cal N a ca) (ib : GSs W cal N b cb) : GS W cal N (.ite c a b) (qkIf c ca cb) := fun sc s h =>
  unIfS (P := fun s => OkS W cal N sc s _) h fun x y z p h => andE h fun h1 h => andE h fun h2 h3 => OkS.ite (goodT H c sc _ h1).tru (ia sc _ h2) (ib sc _ h3)
theorem gs_ret (H : CalOk W N cal) (t : T) : GS W cal N (.ret t) (qkRet t) := fun sc s h =>
  unRet (P := fun s => OkS W cal N sc s _) h fun o p h => optE (P := fun o => OkS W cal N sc (.Return o p) _) h fun e h => OkS.ret (goodT H t sc _ h).ev
theorem isCall {e : Expr} {b : Bool} (h : (optB (asCall e) fun _ => b) = true) : optB (asCall e) (fun _ => true) = true := by
  cases hc : asCall e with
  | none => rw [hc] at h; exact ff h
  | some c => rfl
theorem isCallB {e : Expr} {b : Bool} (h : (optB (asCall e) fun _ => b) = true) : b = true := by
  cases hc : asCall e with
  | none => rw [hc] at h; exact ff h
  | some c => rw [hc] at h; exact h
theorem gs_expr (H : CalOk W N cal) (t : T) : GS W cal N (.expr t) (qkExpr t) := fun sc s h =>
  unExprS (P := fun s => OkS W cal N sc s _) h fun e p h => unCall (P := fun e => chk t sc e = true → OkS W cal N sc (.Expr e p) _) (f := fun _ => true) (isCall h) (fun fn es kw q _ h2 => OkS.expr (fun env => rfl) (goodT H t sc _ h2).ev) (isCallB h)
theorem gs_cons {a : TS} {ca : KSt} (ia : GS W cal N a ca) {r : TSs} {cr : KSs} (ir : GSs W cal N r cr) : GSs W cal N (.cons a r) (qkConsS ca cr) := fun sc ss h => by
  cases ss with
  | nil => exact ff h
  | cons s ss => exact andE h fun h1 h2 => OkSs.cons (ia sc s h1) (ir sc ss h2)
theorem goodTSs (H : CalOk W N cal) (t : TSs) : GSs W cal N t (chkS t) := @TSs.rec (fun t => GS W cal N t (@TS.rec (fun _ => KSt) (fun _ => KSs) qkAssign qkUnpack qkPairIdx qkSetIdx qkSetAttr qkAugName qkAugAttr (fun xs it _ b => qkFor xs it b) (fun c _ _ a b => qkIf c a b) qkRet qkExpr (fun _ s => isBrk s) (fun _ s => isRaise s) (fun _ ss => ss.isEmpty) (fun _ _ a r => qkConsS a r) t)) (fun t => GSs W cal N t (chkS t))
  (gs_assign H) (gs_unpack H) (gs_pairIdx H) (gs_setIdx H) (gs_setAttr H) (gs_augName H) (gs_augAttr H) (fun xs it _ b => gs_for H xs it b) (fun c _ _ a b => gs_ite H c a b) (gs_ret H) (gs_expr H)
  (fun sc s h => eBrk' (P := fun s => OkS W cal N sc s .brk) h fun p => OkS.brk) (fun sc s _ => OkS.fail) (fun sc ss h => nilE (P := fun ss => OkSs W cal N sc ss .nil) h OkSs.nil) (fun _ _ a r => gs_cons a r) t
end
end Mine
end

section
set_option autoImplicit false
set_option maxRecDepth 100000
namespace Mine
open PySem PySem.W PyProof.Rows

noncomputable def codes? : List Str → Option (List Nat)
  | [] => some []
  | x :: r => match code x, codes? r with | some i, some is => some (i :: is) | _, _ => none

structure FnOk (K : Frag) (a : Addr) (d : List Nat × TSs) : Prop where
  ok : ∃ (oc : Value) (od : Option Addr) (osl : Array (Option Value)) (fd : FuncData) (body : List Stmt) (names : List Str),
    K.lookup a = some ⟨oc, od, .func fd, osl⟩ ∧ fd.body = .stmts body ∧ fd.closure = [] ∧ fd.globals = mainGlobals ∧ fd.builtins = builtinsNs ∧ fd.scope.kind = .function ∧ fd.scope.isCoroutine = false ∧ fd.scope.isGenerator = false ∧
    codeIn K fd.code fd.qualname = true ∧ chkS d.2 fd.scope body = true ∧ codes? names = some d.1 ∧ names.Nodup ∧ (fd.scope.names.map (·.1)).Nodup ∧
    (∀ y ∈ fd.scope.names, y.2 ≠ .free) ∧ (∀ x ∈ names, fd.scope.names.lookup x = some .local ∨ fd.scope.names.lookup x = some .cell) ∧
    (∀ (s : Shared) (vals : List Value), K.In s.heap → vals.length = names.length → BindsTo s fd ⟨vals, []⟩ (names.zip vals))

theorem cellsFrom_mem : ∀ {names : List (Str × NameKind)} {n : Nat} {acc : List (Str × Addr)} {x : Str} {c : Addr}, (x, c) ∈ cellsFrom n names acc → (x, c) ∈ acc ∨ (x, NameKind.cell) ∈ names
  | [], _, _, _, _, h => .inl h
  | (m, k) :: r, n, acc, x, c, h => by
    unfold cellsFrom at h
    split at h
    · rename_i hk
      rcases cellsFrom_mem h with h1 | h1
      · rcases List.mem_cons.mp h1 with e | e
        · cases e; exact .inr (by rw [← beq_iff_eq.mp hk]; exact List.mem_cons_self)
        · exact .inl e
      · exact .inr (List.mem_cons_of_mem _ h1)
    · rcases cellsFrom_mem h with h1 | h1
      · exact .inl h1
      · exact .inr (List.mem_cons_of_mem _ h1)
theorem cellsFrom_nodup : ∀ {names : List (Str × NameKind)} {n : Nat} {acc : List (Str × Addr)}, (names.map (·.1)).Nodup → (acc.map (·.1)).Nodup → (∀ x ∈ acc, x.1 ∉ names.map (·.1)) → ((cellsFrom n names acc).map (·.1)).Nodup
  | [], _, _, _, ha, _ => ha
  | (m, k) :: r, n, acc, hn, ha, hd => by
    rw [List.map_cons, List.nodup_cons] at hn
    unfold cellsFrom
    split
    · refine cellsFrom_nodup hn.2 ?_ fun x hx => ?_
      · rw [List.map_cons, List.nodup_cons]
        refine ⟨fun hm => ?_, ha⟩
        obtain ⟨x, hx, e⟩ := List.mem_map.mp hm
        exact hd x hx (by rw [e]; exact List.mem_cons_self)
      · rcases List.mem_cons.mp hx with rfl | hx
        · exact hn.1
        · exact fun q => hd x hx (List.mem_cons_of_mem _ q)
    · exact cellsFrom_nodup hn.2 ha fun x hx q => hd x hx (List.mem_cons_of_mem _ q)
theorem cellsFrom_has : ∀ {names : List (Str × NameKind)} {n : Nat} {acc : List (Str × Addr)} {x : Str}, ((acc.lookup x).isSome = true ∨ (x, NameKind.cell) ∈ names) → ((cellsFrom n names acc).lookup x).isSome = true
  | [], _, _, _, h => by rcases h with h | h; exact h; exact nomatch h
  | (m, k) :: r, n, acc, x, h => by
    unfold cellsFrom
    split
    · rename_i hk
      refine cellsFrom_has ?_
      rcases h with h | h
      · exact .inl (lookup_cons_some h)
      · rcases List.mem_cons.mp h with e | e
        · cases e; left; simp [List.lookup_cons]
        · exact .inr e
    · rename_i hk
      refine cellsFrom_has ?_
      rcases h with h | h
      · exact .inl h
      · rcases List.mem_cons.mp h with e | e
        · cases e; exact absurd rfl hk
        · exact .inr e

theorem bindL_off {kindOf : Str → Option NameKind} {binds : List (Str × Value)} {m : Str → Option Value} {y : Str} (h : y ∉ binds.map (·.1)) : bindL kindOf binds m y = m y := by
  induction binds generalizing m with
  | nil => rfl
  | cons x r ih =>
    obtain ⟨n, v⟩ := x
    rw [List.map_cons, List.mem_cons, not_or] at h
    unfold bindL
    rw [ih h.2]
    split
    · exact if_neg h.1
    · rfl
theorem bindL_at {kindOf : Str → Option NameKind} {binds : List (Str × Value)} {m : Str → Option Value} {y : Str} {v : Value} (hn : (binds.map (·.1)).Nodup) (h : (y, v) ∈ binds) (hk : kindOf y = some .local) : bindL kindOf binds m y = some v := by
  induction binds generalizing m with
  | nil => cases h
  | cons x r ih =>
    obtain ⟨n, u⟩ := x
    rw [List.map_cons, List.nodup_cons] at hn
    unfold bindL
    rcases List.mem_cons.mp h with e | e
    · cases e
      rw [bindL_off hn.1, if_pos hk]; exact if_pos rfl
    · exact ih hn.2 e
theorem bindC_off {kindOf : Str → Option NameKind} {binds : List (Str × Value)} {m : Str → Option Value} {y : Str} (h : y ∉ binds.map (·.1)) : bindC kindOf binds m y = m y := by
  induction binds generalizing m with
  | nil => rfl
  | cons x r ih =>
    obtain ⟨n, v⟩ := x
    rw [List.map_cons, List.mem_cons, not_or] at h
    unfold bindC
    rw [ih h.2]
    split
    · rfl
    · exact if_neg h.1
theorem bindC_at {kindOf : Str → Option NameKind} {binds : List (Str × Value)} {m : Str → Option Value} {y : Str} {v : Value} (hn : (binds.map (·.1)).Nodup) (h : (y, v) ∈ binds) (hk : kindOf y ≠ some .local) : bindC kindOf binds m y = some v := by
  induction binds generalizing m with
  | nil => cases h
  | cons x r ih =>
    obtain ⟨n, u⟩ := x
    rw [List.map_cons, List.nodup_cons] at hn
    unfold bindC
    rcases List.mem_cons.mp h with e | e
    · cases e
      rw [bindC_off hn.1, if_neg hk]; exact if_pos rfl
    · exact ih hn.2 e

theorem zip_keys {names : List Str} {vals : List Value} (h : vals.length = names.length) : (names.zip vals).map (·.1) = names := by
  induction names generalizing vals with
  | nil => rfl
  | cons n r ih =>
    cases vals with
    | nil => cases h
    | cons v vs => rw [List.zip_cons_cons, List.map_cons, ih (Nat.succ.inj h)]

theorem params_at [Hid] {h : Heap} {φ : Phi} {names : List Str} {is : List Nat} {vals : List Value} {args : List V} {ρ : Rho} (hc : codes? names = some is) (d : Dens h φ vals args) (hb : bindParams is args = some ρ) :
    vals.length = names.length ∧ ∀ i y v, ρ i = some v → nms[i]? = some y → ∃ val, (y, val) ∈ names.zip vals ∧ Den h φ val v := by
  induction names generalizing is vals args ρ with
  | nil =>
    cases hc
    cases d with
    | nil => cases hb; exact ⟨rfl, fun i y v h => nomatch h⟩
    | cons _ _ => cases hb
  | cons x r ih =>
    unfold codes? at hc
    split at hc
    · rename_i i is h1 h2
      cases hc
      cases d with
      | nil => cases hb
      | cons d1 d2 =>
        obtain ⟨ρ', h3, rfl⟩ := Option.map_eq_some_iff.mp hb
        obtain ⟨e, k⟩ := ih h2 d2 h3
        refine ⟨congrArg Nat.succ e, fun j y v hj hy => ?_⟩
        by_cases q : j = i
        · subst q; rw [upd_same] at hj; cases hj
          have := code_get h1
          rw [hy] at this; cases this
          exact ⟨_, List.mem_cons_self, d1⟩
        · rw [upd_ne q] at hj
          obtain ⟨val, a, b⟩ := k j y v hj hy
          exact ⟨val, List.mem_cons_of_mem _ a, b⟩
    · cases hc

section
variable {prog : Program} {w : World} {W : Wd prog w} {P : Prog}

theorem defW.e {o : Option (List Nat × TSs)} {K : List Nat → TSs → Prop} {R : Prop} (h : defW o K) (k : ∀ d, o = some d → K d.1 d.2 → R) : R := match o, h with | some d, h => k d rfl h
theorem paramsW.e {xs : List Nat} {vs : List V} {K : Rho → Prop} {R : Prop} (h : paramsW xs vs K) (k : ∀ ρ, bindParams xs vs = some ρ → K ρ → R) : R := by
  unfold paramsW at h
  cases e : bindParams xs vs with
  | none => rw [e] at h; exact h.elim
  | some ρ => rw [e] at h; exact k ρ e h

theorem calOk_step {n : Nat} (hP : ∀ f d, f < 27 → P f = some d → FnOk W.K (W.fa f) d) (H : CalOk W n (runW P n)) : CalOk W (n + 1) (runW P (n + 1)) := by
  intro _ A s φ σ f vals args Q R hf S D ev
  have ev : defW (P f) fun xs b => paramsW xs args fun ρ => Exs b (runW P n) ρ σ (RetQ Q) := ev
  refine defW.e ev fun d h1 ev => paramsW.e ev fun ρ h2 h3 => ?_
  obtain ⟨oc, od, osl, fd, body, names, hlk, hbody, hclo, hglob, hblt, hkind, hco, hgen, hcode, hcomp, hcodes, hnd, hsn, hnofree, hparams, hbind⟩ := (hP f d hf h1).ok
  have X := Wd.kAt S
  obtain ⟨hlen, hat⟩ := params_at hcodes D h2
  refine codeAny_call_function (fd := fd) (body := body) (by have := R.depth; show A.depth < 1000; omega) (X _ _ hlk) rfl hco hgen hbody (codeRec_of X hcode) (hbind s vals X hlen _ _ _ _ ?_)
  rw [hclo]
  have hkeys := zip_keys hlen
  refine wpAny_newFunctionEnv_cells hkind (fun x hx => ?_) fun env he s₁ ic => ?_
  · have hx1 : x.1 ∈ names := by rw [← hkeys]; exact List.mem_map.mpr ⟨x, hx, rfl⟩
    rcases hparams x.1 hx1 with h | h
    · exact .inl h
    · exact .inr ⟨h, cellsFrom_has (.inr (mem_of_lookup h))⟩
  · have hL : env.locals = s.heap.objs.size := by rw [he]; rfl
    have hsc : env.scope = fd.scope := by rw [he]; rfl
    have hcells : env.cells = cellsFrom (s.heap.objs.size + 1) fd.scope.names [] := by rw [he]; rfl
    have hk : ∀ x, env.kindOf x = fd.scope.names.lookup x := fun x => by unfold Env.kindOf; rw [hsc]
    obtain ⟨ic0, icell, iapart, iabove⟩ := ic
    obtain ⟨⟨hh, tk, rfl⟩, ins, ikeep, ifresh⟩ := ic0
    refine ⟨(W.nolimit.keeps fun b o e => (S.base b o e).1).keeps ikeep, codeAny_func ?_⟩
    have S1 : SimW W hh φ σ := S.keep ikeep
    have X1 : Ext [] s.heap φ hh φ := Ext.all ikeep
    have deadL : s.heap.get? env.locals = none := by rw [hL]; exact dead _
    have deadC : ∀ n c, (n, c) ∈ env.cells → s.heap.get? c = none := fun n c hm => Heap.get?_none_of_le (Nat.le_of_lt (Nat.lt_of_le_of_lt ifresh (iabove n c hm)))
    have hcnd : (env.cells.map (·.1)).Nodup := by rw [hcells]; exact cellsFrom_nodup hsn (by simp) (by simp)
    have Renv : EnvAt W env hh φ ρ (bindL env.kindOf (names.zip vals) fun _ => none) := by
      refine ⟨by rw [hsc]; exact hkind, by rw [he]; exact hglob, by rw [he]; exact hblt, ins, h0_dead S deadL, (off_dead S deadL).1, fun n c hm => ⟨⟨_, icell n c (lookup_of_mem hcnd hm)⟩, h0_dead S (deadC n c hm), (off_dead S (deadC n c hm)).1⟩, iapart, fun x hx => ?_, fun i y v hi hy => ?_⟩
      · rw [hcells]
        refine cellsFrom_has (.inr ?_)
        rw [hk] at hx
        cases hl : fd.scope.names.lookup x with
        | none => rw [hl] at hx; cases hx
        | some kd =>
          have hm := mem_of_lookup hl
          rw [hl] at hx
          cases kd <;> first | exact hm | exact absurd rfl (hnofree _ hm) | cases hx
      · obtain ⟨val, hm, dv⟩ := hat i y v hi hy
        have dv' := dv.mono X1 Bare.nil
        refine ⟨fun hky => ⟨val, bindL_at (by rw [hkeys]; exact hnd) hm hky, dv'⟩, fun hky => ?_⟩
        have hnl : env.kindOf y ≠ some .local := by intro q; rw [q] at hky; cases hky
        have hy1 : y ∈ names := by rw [← hkeys]; exact List.mem_map.mpr ⟨_, hm, rfl⟩
        have hcell : fd.scope.names.lookup y = some .cell := by
          rcases hparams y hy1 with q | q
          · exact absurd ((hk y).trans q) hnl
          · exact q
        obtain ⟨c, hc⟩ := Option.isSome_iff_exists.mp (cellsFrom_has (n := s.heap.objs.size + 1) (acc := []) (.inr (mem_of_lookup hcell)))
        rw [← hcells] at hc
        refine ⟨c, val, hc, ?_, dv'⟩
        have := icell y c hc
        rwa [bindC_at (by rw [hkeys]; exact hnd) hm hnl] at this
    have RR : Room (A.deeper env) n := ⟨R.handled, by have := R.depth; show A.depth + 1 + _ ≤ _; omega, by have := R.units; show A.units + 3 + _ + _ ≤ _; omega⟩
    refine wpF (goodTSs H d.2 fd.scope body hcomp (A.deeper env) _ env φ σ ρ _ _ RR hsc ⟨_, Renv⟩ S1 h3) fun flow s₂ φ' fl ρ' σ' e2 X2 S2 R2 F2 ev => ?_
    have Xall : Ext [] s.heap φ s₂.heap φ' := X1.hide X2 fun b hb => by
      rcases List.mem_cons.mp hb with rfl | hb
      · exact deadL
      · obtain ⟨⟨n, c⟩, hm, rfl⟩ := List.mem_map.mp hb
        exact deadC n c hm
    have eAll : Same s s₂ := Same.trans ⟨rfl, rfl, rfl⟩ e2
    cases fl with
    | ret u =>
      cases flow with
      | ret v => exact .mk φ' u σ' eAll Xall S2 F2 ev
      | _ => exact F2.elim
    | next =>
      cases flow with
      | next => exact .mk φ' .nul σ' eAll Xall S2 .nul ev
      | _ => exact F2.elim
    | brk => exact (ev : False).elim

theorem calOk_zero : CalOk W 0 (runW P 0) := by
  intro _ A s φ σ f vals args Q R hf S D ev
  exact (ev : False).elim
theorem calOk (hP : ∀ f d, f < 27 → P f = some d → FnOk W.K (W.fa f) d) (n : Nat) : CalOk W n (runW P n) := by
  induction n with
  | zero => exact @calOk_zero _ _ _ _
  | succ n ih => exact @calOk_step _ _ _ _ _ hP ih
end
noncomputable def faL : List Addr := [129, 73, 80, 87, 94, 101, 108, 115, 136, 143, 155, 169, 175, 189, 196, 201, 206, 211, 218, 225, 230, 237, 244, 251, 256, 261, 266]
noncomputable def fa (f : Nat) : Addr := faL.getD f 0

end Mine
end

section
set_option maxRecDepth 100000
namespace Mine
open PySem PySem.W PyProof.Rows

noncomputable def readAt (K : Frag) (a : Addr) (t : TSs) : Bool := match K.lookup a with
  | some ⟨_, _, .func fd, _⟩ => (match fd.body with | .stmts body => chkS t fd.scope body | _ => false)
  | _ => false
noncomputable def fdAt (K : Frag) (a : Addr) : Option FuncData := match K.lookup a with
  | some ⟨_, _, .func fd, _⟩ => some fd
  | _ => none
noncomputable def namesAt (K : Frag) (a : Addr) : List Str := match fdAt K a with | some fd => fd.params.args.map (·.arg) | none => []
noncomputable def fnCheck (K : Frag) (a : Addr) (ps : List Nat) : Bool := match K.lookup a with
  | some ⟨_, _, .func fd, _⟩ =>
    (match fd.scope.kind with | .function => true | _ => false) && !fd.scope.isCoroutine && !fd.scope.isGenerator && fd.closure.isEmpty && fd.globals == mainGlobals && fd.builtins == builtinsNs && codeIn K fd.code fd.qualname &&
    codes? (fd.params.args.map (·.arg)) == some ps && decide ((fd.params.args.map (·.arg)).Nodup) && decide ((fd.scope.names.map (·.1)).Nodup) && (fd.scope.names.all fun y => y.2 != .free) &&
    ((fd.params.args.map (·.arg)).all fun x => fd.scope.names.lookup x == some .local || fd.scope.names.lookup x == some .cell)
  | _ => false

theorem fnOk_of {K : Frag} {a : Addr} {d : List Nat × TSs} (hr : readAt K a d.2 = true) (hc : fnCheck K a d.1 = true)
    (hb : ∀ (fd : FuncData), fdAt K a = some fd → ∀ (s : Shared) (vals : List Value), K.In s.heap → vals.length = (namesAt K a).length → BindsTo s fd ⟨vals, []⟩ ((namesAt K a).zip vals))   : FnOk K a d := by
  unfold readAt at hr
  unfold fnCheck at hc
  split at hr
  · rename_i oc od fd osl hl
    split at hr
    · rename_i body hbody
      rw [hl] at hc
      simp only [Bool.and_eq_true, Bool.not_eq_true', beq_iff_eq, decide_eq_true_eq, List.all_eq_true, bne_iff_ne, Bool.or_eq_true] at hc
      obtain ⟨⟨⟨⟨⟨⟨⟨⟨⟨⟨⟨h1, h2⟩, h3⟩, h4⟩, h5⟩, h6⟩, h7⟩, h8⟩, h9⟩, h10⟩, h11⟩, h12⟩ := hc
      have hfd : fdAt K a = some fd := by unfold fdAt; rw [hl]
      have hn : namesAt K a = fd.params.args.map (·.arg) := by unfold namesAt; rw [hfd]
      refine ⟨oc, od, osl, fd, body, _, hl, hbody, by simpa using h4, h5, h6, ?_, h2, h3, h7, hr, h8, h9, h10, h11, h12, ?_⟩
      · split at h1
        · assumption
        · cases h1
      · rw [← hn]; exact hb fd hfd
    · cases hr
  · cases hr

theorem binds_of {K : Frag} {a : Addr} {vals : List Value} {fd : FuncData} {s : Shared} (hfd : fdAt K a = some fd) (X : K.In s.heap) (h : ∀ S, ((fdAt K a).bind fun fd => peek K S (bindArgs fd ⟨vals, []⟩)) = some ((namesAt K a).zip vals)) : BindsTo s fd ⟨vals, []⟩ ((namesAt K a).zip vals) :=
  fun M _ _ _ q => by
    have := h ⟨M.prog, M.w.params⟩
    rw [hfd, Option.bind_some] at this
    exact (Looks.of_peek (M := M) X this).here q


noncomputable def frag (as : List Addr) (h : Heap) : Frag := as.filterMap fun a => (h.get? a).map fun o => (a, o)
theorem frag_in {h : Heap} : ∀ (as : List Addr), (frag as h).In h
  | [], a, o, e => by cases e
  | b :: r, a, o, e => by
    unfold frag at e
    rw [List.filterMap_cons] at e
    cases hb : h.get? b with
    | none => rw [hb] at e; exact frag_in r a o e
    | some ob =>
      rw [hb] at e
      simp only [Option.map_some, List.lookup_cons] at e
      split at e
      · rename_i q
        rw [beq_iff_eq] at q
        subst q
        cases e
        exact hb
      · exact frag_in r a o e
noncomputable def asL : List Addr := [2, 3, 15, 17, 18, 20, 21, 22, 29, 30, 32, 33, 35, 36, 37, 38, 39, 40, 43, 50, 51, 52, 55, 62, 63, 64, 67, 69, 70, 72, 73, 74, 76, 77, 79, 80, 81, 83, 84, 86, 87, 88, 90, 91, 93, 94, 95, 97, 98, 100, 101, 102, 104, 105, 107, 108, 109, 111, 112, 114, 115, 123, 125, 126, 128, 129, 130, 132, 133, 135, 136, 137, 139, 140, 142, 143, 144, 146, 147, 149, 150, 151, 154, 155, 156, 158, 159, 161, 162, 163, 165, 166, 168, 169, 170, 171, 174, 175, 176, 177, 178, 179, 180, 183, 185, 186, 188, 189, 190, 192, 193, 195, 196, 197, 200, 201, 202, 205, 206, 207, 210, 211, 212, 214, 215, 217, 218, 219, 221, 222, 224, 225, 226, 229, 230, 231, 233, 234, 236, 237, 238, 240, 241, 243, 244, 245, 247, 248, 250, 251, 252, 255, 256, 257, 260, 261, 262, 265, 266]

noncomputable def pn (f : Nat) : List Str := match prog f with | some d => d.1.map fun k => nms.getD k "" | none => []
noncomputable def first6 (v0 v1 v2 v3 v4 v5 : Value) (n : Nat) : List Value := [v0, v1, v2, v3, v4, v5].take n
noncomputable def isInt (n : Int) : Option (Option Value) → Bool
  | some (some (.int m _)) => m == n
  | _ => false
theorem isInt_of {n : Int} {o : Option (Option Value)} (h : isInt n o = true) : ∃ t, o = some (some (.int n t)) := by
  unfold isInt at h
  split at h
  · rename_i m t; rw [beq_iff_eq] at h; subst h; exact ⟨t, rfl⟩
  · cases h
noncomputable def bools (K : Frag) : Bool :=
  ((List.range 27).all fun f => match prog f with | some d => readAt K (fa f) d.2 && fnCheck K (fa f) d.1 | none => false) &&
  (((["len", "range", "list", "tuple", "max", "min", "abs", "int", "bool", "sum", "dict", "isinstance"] : List Str).all fun x => nsIn K mainGlobals x == some none) &&
  (((List.range 27).all fun f => !isDef f || nsIn K mainGlobals (fns.getD f "") == some (some (.ref (fa f)))) &&
  (isInt 0 (nsIn K mainGlobals "EDGE") && (isInt 63 (nsIn K mainGlobals "LONGEST") && (nsIn K mainGlobals "Patterns" == some (some (.ref 178)) && (nsIn K mainGlobals "law" == some (some (.ref 266)) &&
  ((clsIn K 178).any (·.hasDict) && ((attrs.all fun x => findIn K (.ref 178) x == some none) &&
  (((List.range 27).all fun f => !isMethod f || findIn K (.ref 178) (fns.getD f "") == some (some (.ref (fa f)))) &&
  (((List.range 27).all fun f => typeIn K (.ref (fa f)) == some (.type "function")) &&
  (((List.range 27).all fun f => keepIn K (.ref (fa f))) &&
  (findIn K (.ref 178) "__getattribute__" == some (some (.builtin "object.__getattribute__")) && (findIn K (.ref 178) "__getattr__" == some none && (findIn K (.ref 178) "__setattr__" == some (some (.builtin "object.__setattr__")) &&
  (plainOver K 178 && (makesIn K 178 && (findIn K (.ref 178) "__init__" == some (some (.ref (fa 0))) && keepIn K (.ref 178))))))))))))))))))

noncomputable abbrev Obs : Type := (List (List Str) × ((Setting → Value → Value → Value → Value → Value → Value → List (Option (List (Str × Value)))) × Bool))
noncomputable def obsK (K : Frag) : Obs :=
  ((List.range 27).map fun f => namesAt K (fa f),
   fun S v0 v1 v2 v3 v4 v5 => (List.range 27).map fun f => (fdAt K (fa f)).bind fun fd => peek K S (bindArgs fd ⟨first6 v0 v1 v2 v3 v4 v5 (pn f).length, []⟩), bools K)
noncomputable def obsV : Obs :=
  ((List.range 27).map pn,
   fun S v0 v1 v2 v3 v4 v5 => (List.range 27).map fun f => some ((pn f).zip (first6 v0 v1 v2 v3 v4 v5 (pn f).length)), true)

theorem map_range_eq {α : Type} {g h : Nat → α} (e : (List.range 27).map g = (List.range 27).map h) {f : Nat} (hf : f < 27) : g f = h f := by
  have := congrArg (fun l => l[f]?) e
  simp only [List.getElem?_map, List.getElem?_range hf, Option.map_some, Option.some.injEq] at this
  exact this
theorem pn_len : ∀ f, f < 27 → (pn f).length ≤ 6 := by decide +kernel
theorem six {n : Value} {vs : List Value} (h : vs.length = 6) : vs = [vs.getD 0 n, vs.getD 1 n, vs.getD 2 n, vs.getD 3 n, vs.getD 4 n, vs.getD 5 n] := by
  refine List.ext_getElem? fun i => ?_
  rcases Nat.lt_or_ge i 6 with hi | hi
  · have hj : i < vs.length := h ▸ hi
    have e : vs[i]? = some (vs.getD i n) := by rw [List.getD_eq_getElem?_getD, List.getElem?_eq_getElem hj]; rfl
    rw [e]
    rcases i with _ | _ | _ | _ | _ | _ | i <;> first | rfl | exact absurd hi (by omega)
  · rw [List.getElem?_eq_none (h ▸ hi), List.getElem?_eq_none hi]
theorem fill (n : Value) (k : Nat) : ∀ (vals : List Value), vals.length ≤ k → ∃ vs : List Value, vs.length = k ∧ vs.take vals.length = vals := by
  induction k with
  | zero =>
    intro vals h
    cases vals with
    | nil => exact ⟨[], rfl, rfl⟩
    | cons _ _ => exact absurd h (Nat.not_succ_le_zero _)
  | succ k ih =>
    intro vals h
    cases vals with
    | nil => exact ⟨List.replicate (k + 1) n, List.length_replicate, rfl⟩
    | cons a r =>
      obtain ⟨vs, h1, h2⟩ := ih r (Nat.le_of_succ_le_succ h)
      exact ⟨a :: vs, congrArg Nat.succ h1, congrArg (List.cons a) h2⟩
theorem first6_of (vals : List Value) (h : vals.length ≤ 6) : ∃ v0 v1 v2 v3 v4 v5, first6 v0 v1 v2 v3 v4 v5 vals.length = vals := by
  obtain ⟨vs, h1, h2⟩ := fill .none 6 vals h
  exact ⟨vs.getD 0 .none, vs.getD 1 .none, vs.getD 2 .none, vs.getD 3 .none, vs.getD 4 .none, vs.getD 5 .none, by unfold first6; rw [← six h1]; exact h2⟩
theorem allFn {K : Frag} (h : obsK K = obsV) (f : Nat) (d : List Nat × TSs) (hf : f < 27) (hd : prog f = some d)   : FnOk K (fa f) d := by
  have e2 : (List.range 27).map (fun f => namesAt K (fa f)) = (List.range 27).map pn := congrArg (fun x => x.1) h
  replace e2 := map_range_eq e2 hf
  have e3 : (fun (S : Setting) (v0 v1 v2 v3 v4 v5 : Value) => (List.range 27).map fun f => (fdAt K (fa f)).bind fun fd => peek K S (bindArgs fd ⟨first6 v0 v1 v2 v3 v4 v5 (pn f).length, []⟩)) = (fun S v0 v1 v2 v3 v4 v5 => (List.range 27).map fun f => some ((pn f).zip (first6 v0 v1 v2 v3 v4 v5 (pn f).length))) := congrArg (fun x => x.2.1) h
  have e4 : bools K = true := congrArg (fun x => x.2.2) h
  have hc : readAt K (fa f) d.2 = true ∧ fnCheck K (fa f) d.1 = true := by
    have := List.all_eq_true.mp (Bool.and_eq_true_iff.mp e4).1 f (List.mem_range.mpr hf)
    rw [hd] at this; exact Bool.and_eq_true_iff.mp this
  refine fnOk_of hc.1 hc.2 fun fd hfd s vals X hl => ?_
  rw [e2] at hl
  obtain ⟨v0, v1, v2, v3, v4, v5, hv⟩ := first6_of vals (by rw [hl]; exact pn_len f hf)
  refine binds_of hfd X fun S => ?_
  have := map_range_eq (congrFun (congrFun (congrFun (congrFun (congrFun (congrFun (congrFun e3 S) v0) v1) v2) v3) v4) v5) hf
  rw [← hl, hv] at this
  rw [e2]
  exact this

theorem kOk {K : Frag} (h : obsK K = obsV) : KOk K 178 fa := by
  have e4 : bools K = true := congrArg (fun x => x.2.2) h
  unfold bools at e4
  simp only [Bool.and_eq_true, List.all_eq_true, beq_iff_eq, Bool.or_eq_true, Bool.not_eq_true'] at e4
  obtain ⟨_, _, _, _, _, _, _, k1, k2, k3, k4, k5, k6, k7, k8, k9, k10, k11, k12⟩ := e4
  refine { cd := any_some k1, attr := k2, ga := k6, gh := k7, sa := k8, over := k9, meth := ?_, func := fun f hf => k4 f (List.mem_range.mpr hf), keep := fun f hf => k5 f (List.mem_range.mpr hf), makes := k10, init := k11, keepC := k12 }
  intro f x hf hx
  have h27 : f < 27 := (List.getElem?_eq_some_iff.mp hx).1
  have e : fns.getD f "" = x := by rw [List.getD_eq_getElem?_getD, hx]; rfl
  have := k3 f (List.mem_range.mpr h27)
  rw [hf, e] at this
  simpa using this

noncomputable def wdOf {pr : Program} {w : World} {p : Program} {loose : List Str} {mean : ExcName → Option Value} {mg mb : Str → Option Value} {h : Heap} {K : Frag} (X : K.In h) (O : obsK K = obsV) (T : Top p loose mean mg mb h) : Wd pr w :=
  have e4 : bools K = true := congrArg (fun x => x.2.2) O
  { h₀ := h
    mg := mg
    mb := mb
    K := K
    C := 178
    fa := fa
    g := T.g
    b := T.b
    nolimit := T.nolimit
    kin := X
    boot := T.builtins
    free := fun x hx => mg_none_of X T.g (by
      unfold bools at e4
      simp only [Bool.and_eq_true, List.all_eq_true, beq_iff_eq] at e4
      exact e4.2.1 x hx)
    edge := by
      unfold bools at e4
      simp only [Bool.and_eq_true] at e4
      obtain ⟨t, e⟩ := isInt_of e4.2.2.2.1
      exact ⟨t, mg_of X T.g e⟩
    longest := by
      unfold bools at e4
      simp only [Bool.and_eq_true] at e4
      obtain ⟨t, e⟩ := isInt_of e4.2.2.2.2.1
      exact ⟨t, mg_of X T.g e⟩
    cls := mg_of X T.g (by
      unfold bools at e4
      simp only [Bool.and_eq_true, beq_iff_eq] at e4
      exact e4.2.2.2.2.2.1)
    fn := fun f x hf hx => mg_of X T.g (by
      unfold bools at e4
      simp only [Bool.and_eq_true, List.all_eq_true, beq_iff_eq, Bool.or_eq_true, Bool.not_eq_true'] at e4
      have h27 : f < 27 := (List.getElem?_eq_some_iff.mp hx).1
      have := e4.2.2.1 f (List.mem_range.mpr h27)
      have e : fns.getD f "" = x := by rw [List.getD_eq_getElem?_getD, hx]; rfl
      rw [hf, e] at this
      simpa using this)
    ok := kOk O }
theorem law_at {p : Program} {loose : List Str} {mean : ExcName → Option Value} {mg mb : Str → Option Value} {h : Heap} {K : Frag} (X : K.In h) (O : obsK K = obsV) (T : Top p loose mean mg mb h) : mg "law" = some (.ref 266) := by
  have e4 : bools K = true := congrArg (fun x => x.2.2) O
  refine mg_of X T.g ?_
  unfold bools at e4
  simp only [Bool.and_eq_true, beq_iff_eq] at e4
  exact e4.2.2.2.2.2.2.1

theorem ints_dens [Hid] {h : Heap} {φ : Phi} : ∀ {vs : List Value} {ns : List Int}, IntsAre vs ns → Dens h φ vs (ns.map .int)
  | _, _, .nil => .nil
  | _, _, .cons _ _ r => .cons (.int _ _) (ints_dens r)


theorem law_runs {pr : Program} {w : World} {p : Program} {loose : List Str} {mean : ExcName → Option Value} {mg mb : Str → Option Value} {s : Shared} {l a : Addr} {vs : List Value} {ns : List Int} {n : Nat} {Q : Value → Shared → Prop} {E : Value → Shared → Prop} {K : Frag}
    (X : K.In s.heap) (O : obsK K = obsV) (T : Top p loose mean mg mb s.heap) (hmg : mg "law" = some (.ref a)) (hL : s.heap.IsList l vs.toArray) (hI : IntsAre vs ns) (hlen : ns.length ≤ 63) (hn : n ≤ 200)
    (hr : Cl (runW prog n) 26 [.seq false (ns.map .int)] [] fun v _ => v = .bool true) (k : ∀ s', Same s s' → (∀ b o, s.heap.get? b = some o → s'.heap.get? b = some o) → Q (.bool true) s') :
    wpAny (model pr w) callerA (call (.ref a) [.ref l]) Q E s := by
  have e := law_at X O T
  rw [hmg] at e
  cases e
  let W : Wd pr w := wdOf X O T
  let H : Hid := ⟨fun _ => False⟩
  have S : SimW W s.heap [] [] := ⟨fun b o e => ⟨e, by simp⟩, .nil, rfl, fun i o h => by simp at h, fun a h => h.elim⟩
  have hd := ints_dens (h := s.heap) (φ := []) hI
  have hvl := hd.length
  have D : Dens s.heap [] [Value.ref l] [V.seq false (ns.map .int)] := .cons (.list hL ⟨by simp, fun h => h⟩ (by rw [List.size_toArray, hvl, List.length_map, sizeLine]; omega) hd) .nil
  have R : RoomC callerA n := ⟨rfl, by show 1 + 300 + _ ≤ _; omega, by show 4 + _ + _ ≤ _; omega⟩
  refine wpV (snd_call (W := W) (calOk (fun f d hf h => allFn O f d hf h) n) R (f := 26) (by decide) S D hr) fun val s' φ' v σ' hs hx S' D' hv => ?_
  subst hv
  cases D'
  exact k s' hs fun b o e => hx.keep b o e (by simp) (by simp)
end Mine
end

section
set_option maxRecDepth 100000
set_option maxHeartbeats 0
namespace Mine
open PySem PySem.W PyProof.Rows
noncomputable def qv : Program := view PySem.Challenge.pw_xm0372_01 [0, 2, 3, 4, 6, 7, 9, 10, 11, 12, 13, 14, 15, 16, 18, 19, 20, 21, 22, 23, 24, 25, 26, 27, 28, 29, 30, 31]
noncomputable abbrev rowW : RowW := PySem.Challenge.rw_xm0372_01.row.toRowW
theorem said1 : PySem.Challenge.rw_xm0372_01.wellSaid = true := by kernel_rfl
theorem left : LeftO PySem.Challenge.rw_xm0372_01.row.prog qv ["PageError"] (fun s => xlAt qv [] s && recOk (RowW.records rowW) s) (fun s => obsK (frag asL s.heap)) (fun _ => obsV) 4000 := by
  intro w
  kernel_rfl
end Mine
end

section
set_option maxRecDepth 100000
set_option maxHeartbeats 8000000
namespace Mine
open PySem PySem.W PyProof.Rows
theorem of_run (hrun : ∀ ns : List Int, ns.length ≤ 63 → Cl (runW prog 12) 26 [.seq false (ns.map .int)] [] fun v _ => v = .bool true) : PySem.Challenge.rw_xm0372_01.Holds := by
  w_on
  refine holds_law said1 fun said => ?_
  refine holds_open (q := qv) (loose := ["PageError"]) (Xt := fun s => xlAt qv [] s && recOk (RowW.records rowW) s) (XP := XL qv []) (Yf := fun s => obsK (frag asL s.heap)) (Ya := fun _ => obsV) (YP := fun w h => ∃ K : Frag, K.In h ∧ obsK K = obsV) (N := 4000)
    left (fun w s e => ⟨_, frag_in asL, e⟩) (fun w h h' ⟨K, X, O⟩ k => ⟨K, Frag.In.keeps X k, O⟩) (fun s e => xl_of s (Bool.and_eq_true_iff.mp e).1) XL.keeps (by rfl) (by rfl) (by rfl) (fun s e => recFacts_of (Bool.and_eq_true_iff.mp e).2) (by rfl) said (by decide +kernel) ⟨rfl, rfl, rfl, rfl, rfl, by decide +kernel⟩ ?hw ?hc
  case hw => w_witness2
  case hc =>
    intro w s₀ s₁ mg mb G Y fa' o pm cd doc dV kV ho hd' hcd hD hmg hg args vals as hpre hlay hrd hwl hlo
    obtain ⟨K, KX, KO⟩ := Y
    refine Ground.open G ?_
    intro T B D TE TW
    wrow_args hpre hlay hrd hwl hlo
    rename_i ns _ _ _ _ _ _ _ l vs _ hL _ _ _ hI _ hlen _
    have hr := hrun ns (by omega)
    refine law_runs KX KO T hmg hL hI (by omega) (by decide) hr fun s' hs hk => ?_
    refine ⟨.inl ⟨.bool true, .bool true, [], rfl, fun _ => rfl, .bool _, by with_unfolding_all rfl, fun h => ⟨.nil, fun _ h => nomatch h⟩⟩, .of_keep hk, hs.2.2, .of_eq (hs.1.trans hg)⟩
end Mine
end

section
set_option autoImplicit false
namespace Mine
open PySem
theorem two64 : 2 ^ 64 - 1 = 18446744073709551615 := by decide
theorem apart1 : Apart [97, 98, 99] := apart_of (a := 97) (b := 98) (c := 99) (P := 2870177450012600261) (M1 := 18446744073709551615) (by decide) (by decide) (by decide) rfl two64 ok1
theorem apart2 : Apart [1, 255, 97] := apart_of (a := 1) (b := 255) (c := 97) (P := 2870177450012600261) (M1 := 18446744073709551615) (by decide) (by decide) (by decide) rfl two64 ok2
theorem law_true (ns : List Int) (_ : ns.length ≤ 63) : Cl (runW prog 12) 26 [.seq false (ns.map .int)] [] fun v _ => v = .bool true := law_run (n := 5) apart1 apart2 ns fun _ => rfl
end Mine
end

set_option maxRecDepth 100000 in
set_option maxHeartbeats 8000000 in
theorem PySem.Challenge.cw_xm0372_01_holds : PySem.Challenge.rw_xm0372_01.Holds :=
  Mine.of_run Mine.law_true
