import PyProof.Rows.All
import Wide.All
import OpenK.AllK
import Wide.FinOn
import PySem.Str
import PySem.PyData
import PyProof.P3Statements
import PyProof.EqLayable
import HandS.ForMost
import HandS.Walk
import HandS.Gcd
import HandS.Wide
import HandS.WideMore
import HandS.Flow
import HandS.Conv
import HandS.Zip
import HandS.TupAny
import HandS.TupMul
import HandS.Deep
import HandS.IsInst
import HandS.TupLe
import HandS.Style
import PyProof.Rows.InDataRows
import HandS.Iter
import PyProof.EnumFor
import PyProof.EnumMake
import HandS.Dict
import HandS.DictComp
import HandS.Defaults
import OpenK.KMore
import PyProof.TupleOfSeq
import PyProof.ReprReads
import HandS.SortInts
import HandS.TupSets
import HandS.EndBits
import PySem.Challenge.RW_ringvoices_k31_whole_numbers_of_labels_t
set_option Elab.async false
section
set_option autoImplicit false
/-! The data layer, plain part: what a piece of Python does, by data alone. -/
namespace DL
abbrev Str := PySem.Str
abbrev Key := Sum Int Str

/-- a value as data -/
inductive D where
  | non | bl (b : Bool) | int (i : Int) | str (x : Str) | ty (n : String) | obj (a : Nat)
  | tup (xs : List D) | lst (xs : List D) | scr (xs : List D) | dK (kvs : List (Key × D)) | dT (kvs : List (List Key × D))

/-- a slot: nothing known, a value, an object of its own -/
inductive Sl where
  | no | val (d : D) | own (d : D)
abbrev Env := List Sl

section
variable {S : Type}
abbrev TE (S : Type) := Env → S → (D → S → Prop) → Prop
abbrev TA (S : Type) := Env → S → (List D → S → Prop) → Prop
abbrev TT (S : Type) := Env → S → (Bool → S → Prop) → Prop
structure KE (S : Type) where
  nx : Env → S → Prop
  rt : D → S → Prop
  bk : Env → S → Prop := fun _ _ => False
  ct : Env → S → Prop := fun _ _ => False
abbrev TS (S : Type) := KE S → Env → S → Prop
/-- a def: arguments, store, what is wanted, what is wanted of an error -/
abbrev FS (S : Type) := List D → S → (D → S → Prop) → (D → S → Prop) → Prop

def line : Nat := 16777216

/-! ### expressions -/
def eVar (i : Nat) : TE S := fun env s Q => match env[i]? with
  | some (.val d) => Q d s
  | _ => False
/-- read where nothing keeps it -/
def eBor (i : Nat) : TE S := fun env s Q => match env[i]? with
  | some (.val d) => Q d s
  | some (.own d) => Q d s
  | _ => False
def eC (d : D) : TE S := fun _ s Q => Q d s
abbrev Op2 := D → D → (D → Prop) → Prop
abbrev Op1 := D → (D → Prop) → Prop
abbrev OpN := List D → (D → Prop) → Prop
def eBin (f : Op2) (a b : TE S) : TE S := fun env s Q => a env s fun x s1 => b env s1 fun y s2 => f x y fun z => Q z s2
def eUn (f : Op1) (a : TE S) : TE S := fun env s Q => a env s fun x s1 => f x fun z => Q z s1
def aNil : TA S := fun _ s Q => Q [] s
def aCons (a : TE S) (r : TA S) : TA S := fun env s Q => a env s fun x s1 => r env s1 fun xs s2 => Q (x :: xs) s2
def eFn (f : OpN) (a : TA S) : TE S := fun env s Q => a env s fun xs s1 => f xs fun z => Q z s1
def eTup (a : TA S) : TE S := fun env s Q => a env s fun xs s1 => xs.length ≤ line ∧ Q (.tup xs) s1
def eLst (a : TA S) : TE S := fun env s Q => a env s fun xs s1 => xs.length ≤ line ∧ Q (.lst xs) s1
def eCall (f : FS S) (ex : D → S → Prop) (a : TA S) : TE S := fun env s Q => a env s fun xs s1 => f xs s1 Q ex
def eIf (t : TT S) (a b : TE S) : TE S := fun env s Q => t env s fun c s1 => if c = true then a env s1 Q else b env s1 Q
def eChain (f g : Op2) (a b c : TE S) : TE S := fun env s Q => a env s fun x s1 => b env s1 fun y s2 => f x y fun z => match z with
  | .bl true => c env s2 fun w s3 => g y w fun v => Q v s3
  | .bl false => Q (.bl false) s2
  | _ => False
/-! ### tests -/
def truth : D → (Bool → Prop) → Prop
  | .non, k => k false
  | .bl b, k => k b
  | .int i, k => k (i != 0)
  | .str x, k => x.length ≤ line ∧ k ((x.length : Int) != 0)
  | .tup xs, k => k (!xs.isEmpty)
  | .lst xs, k => k (!xs.isEmpty)
  | .dK kvs, k => k (!kvs.isEmpty)
  | _, _ => False
def tOf (a : TE S) : TT S := fun env s Q => a env s fun x s1 => truth x fun b => Q b s1
def tCmp (f : Op2) (a b : TE S) : TT S := fun env s Q => a env s fun x s1 => b env s1 fun y s2 => f x y fun z => match z with
  | .bl c => Q c s2
  | _ => False
/-- a f b g c as a test -/
def tChain (f g : Op2) (a b c : TE S) : TT S := fun env s Q => a env s fun x s1 => b env s1 fun y s2 => f x y fun z => match z with
  | .bl true => c env s2 fun w s3 => g y w fun v => match v with
    | .bl k => Q k s3
    | _ => False
  | .bl false => Q false s2
  | _ => False
/-- not, and, or as values, by truth -/
def eNot (a : TE S) : TE S := fun env s Q => a env s fun x s1 => truth x fun b => Q (.bl (!b)) s1
def eAnd (a b : TE S) : TE S := fun env s Q => a env s fun x s1 => truth x fun k => if k = true then b env s1 Q else Q x s1
def eOr (a b : TE S) : TE S := fun env s Q => a env s fun x s1 => truth x fun k => if k = true then Q x s1 else b env s1 Q
def tNot (t : TT S) : TT S := fun env s Q => t env s fun c s1 => Q (!c) s1
def tAnd (t u : TT S) : TT S := fun env s Q => t env s fun c s1 => if c = true then u env s1 Q else Q false s1
def tOr (t u : TT S) : TT S := fun env s Q => t env s fun c s1 => if c = true then Q true s1 else u env s1 Q

/-! ### targets -/
inductive Pat where
  | nm (i : Nat) | tp (ps : List Pat)
mutual
def Pat.put : Pat → D → Env → Option Env
  | .nm i, d, env => some (env.set i (.val d))
  | .tp ps, .tup ds, env => Pat.puts ps ds env
  | .tp _, _, _ => none
def Pat.puts : List Pat → List D → Env → Option Env
  | [], [], env => some env
  | p :: ps, d :: ds, env => match Pat.put p d env with
    | some env' => Pat.puts ps ds env'
    | none => none
  | _, _, _ => none
end

/-! ### statements -/
def sNil : TS S := fun K env s => K.nx env s
def sSeq (t u : TS S) : TS S := fun K env s => t { K with nx := u K } env s
def sSet (i : Nat) (a : TE S) : TS S := fun K env s => a env s fun d s1 => K.nx (env.set i (.val d)) s1
/-- a new object of its own -/
def sOwn (i : Nat) (a : TE S) : TS S := fun K env s => a env s fun d s1 => K.nx (env.set i (.own d)) s1
/-- the object of a slot is changed no more -/
def sFrz (i : Nat) : TS S := fun K env s => match env[i]? with
  | some (.own d) => K.nx (env.set i (.val d)) s
  | _ => False
def sUnp (p : Pat) (a : TE S) : TS S := fun K env s => a env s fun d s1 => match p.put d env with
  | some env' => K.nx env' s1
  | none => False
def sRet (a : TE S) : TS S := fun K env s => a env s K.rt
def sRetN : TS S := fun K _ s => K.rt .non s
def sDrop (a : TE S) : TS S := fun K env s => a env s fun _ s1 => K.nx env s1
def sIf (t : TT S) (a b : TS S) : TS S := fun K env s => t env s fun c s1 => if c = true then a K env s1 else b K env s1
def sNever : TS S := fun _ _ _ => False
def sBrk : TS S := fun K env s => K.bk env s
def sCnt : TS S := fun K env s => K.ct env s
/-- x = x op e at a slot -/
def sAug (i : Nat) (f : Op2) (a : TE S) : TS S := fun K env s => match env[i]? with
  | some (.val x) => a env s fun y s1 => f x y fun z => K.nx (env.set i (.val z)) s1
  | _ => False

/-! ### objects of one's own, changed -/
def ixN (n : Nat) (i : Int) : Option Nat := if 0 ≤ i then (if i < n then some i.toNat else none) else if -(n : Int) ≤ i then some (i + n).toNat else none
def atD (xs : List D) (i : Int) (k : D → Prop) : Prop := match (ixN xs.length i).bind fun j => xs[j]? with
  | some x => k x
  | none => False
def sApp (i : Nat) (a : TE S) : TS S := fun K env s => match env[i]? with
  | some (.own (.lst ds)) => a env s fun d s1 => ds.length < line ∧ K.nx (env.set i (.own (.lst (ds ++ [d])))) s1
  | _ => False
def putD : D → D → D → (D → Prop) → Prop
  | .lst ds, .int n, v, k => match ixN ds.length n with
    | some j => k (.lst (ds.set j v))
    | none => False
  | _, _, _, _ => False
def sPut (i : Nat) (ix a : TE S) : TS S := fun K env s => match env[i]? with
  | some (.own o) => a env s fun d s1 => ix env s1 fun n s2 => putD o n d fun o' => K.nx (env.set i (.own o')) s2
  | _ => False
def getD' : D → D → (D → Prop) → Prop
  | .lst ds, .int n, k => atD ds n k
  | _, _, _ => False
def sAugIx (i : Nat) (ix : TE S) (f : Op2) (a : TE S) : TS S := fun K env s => match env[i]? with
  | some (.own o) => ix env s fun n s1 => getD' o n fun x => a env s1 fun y s2 => f x y fun z => putD o n z fun o' => K.nx (env.set i (.own o')) s2
  | _ => False
/-- x = list.pop() -/
def sPop (j i : Nat) : TS S := fun K env s => match env[i]? with
  | some (.own (.lst ds)) => match ds[ds.length - 1]? with
    | some d => K.nx ((env.set i (.own (.lst ds.dropLast))).set j (.val d)) s
    | none => False
  | _ => False

/-! ### several at once -/
inductive Par (S : Type) where
  | nil
  | val (i : Nat) (a : TE S) (r : Par S)
  | own (i : Nat) (a : TE S) (r : Par S)
def Par.run : Par S → Env → S → (List Sl → S → Prop) → Prop
  | .nil, _, s, Q => Q [] s
  | .val _ a r, env, s, Q => a env s fun d s1 => Par.run r env s1 fun ds s2 => Q (.val d :: ds) s2
  | .own _ a r, env, s, Q => a env s fun d s1 => Par.run r env s1 fun ds s2 => Q (.own d :: ds) s2
def Par.idx : Par S → List Nat
  | .nil => []
  | .val i _ r => i :: r.idx
  | .own i _ r => i :: r.idx
def putSl : List Nat → List Sl → Env → Env
  | i :: is, d :: ds, env => putSl is ds (env.set i d)
  | _, _, env => env
def sPar (p : Par S) : TS S := fun K env s => p.run env s fun ds s1 => K.nx (putSl p.idx ds env) s1

/-! ### loops -/
/-- what is walked: its items -/
abbrev TI (S : Type) := Env → S → (List D → S → Prop) → Prop
def items : D → (List D → Prop) → Prop
  | .tup xs, k => k xs
  | .lst xs, k => k xs
  | _, _ => False
def iOf (a : TE S) : TI S := fun env s Q => a env s fun x s1 => items x fun ds => Q ds s1
def intsFrom (lo : Int) : Nat → List D
  | 0 => []
  | n + 1 => .int lo :: intsFrom (lo + 1) n
def intsDown (hi : Int) : Nat → List D
  | 0 => []
  | n + 1 => .int hi :: intsDown (hi - 1) n
def rng : List D → (List D → Prop) → Prop
  | [.int hi], k => -(2 ^ 62) ≤ hi ∧ hi < 2 ^ 62 ∧ k (intsFrom 0 hi.toNat)
  | [.int lo, .int hi], k => -(2 ^ 62) ≤ lo ∧ lo < 2 ^ 62 ∧ -(2 ^ 62) ≤ hi ∧ hi < 2 ^ 62 ∧ k (intsFrom lo (hi - lo).toNat)
  | [.int hi, .int lo, .int c], k => c = -1 ∧ -(2 ^ 62) ≤ lo ∧ lo < 2 ^ 62 ∧ -(2 ^ 62) ≤ hi ∧ hi < 2 ^ 62 ∧ k (intsDown hi (hi - lo).toNat)
  | _, _ => False
def iRng (a : TA S) : TI S := fun env s Q => a env s fun ds s1 => rng ds fun xs => Q xs s1
def zip3 : List D → List D → List D → List D
  | x :: xs, y :: ys, z :: zs => .tup [x, y, z] :: zip3 xs ys zs
  | _, _, _ => []
def zipL : List D → (List D → Prop) → Prop
  | [x, y], k => items x fun xs => items y fun ys => k (List.zipWith (fun u v => .tup [u, v]) xs ys)
  | [x, y, z], k => items x fun xs => items y fun ys => items z fun zs => k (zip3 xs ys zs)
  | _, _ => False
def iZip (a : TA S) : TI S := fun env s Q => a env s fun ds s1 => zipL ds fun xs => Q xs s1
def enumF : Nat → List D → List D
  | _, [] => []
  | n, x :: xs => .tup [.int n, x] :: enumF (n + 1) xs
def enumL : List D → (List D → Prop) → Prop
  | [x], k => items x fun xs => k (enumF 0 xs)
  | _, _ => False
def iEnum (a : TA S) : TI S := fun env s Q => a env s fun ds s1 => enumL ds fun xs => Q xs s1

def forD (p : Pat) (body : TS S) (K : KE S) : List D → Env → S → Prop
  | [], env, s => K.nx env s
  | d :: ds, env, s => match p.put d env with
    | some env' => body { K with nx := forD p body K ds, ct := forD p body K ds, bk := K.nx } env' s
    | none => False
def sFor (it : TI S) (p : Pat) (body : TS S) : TS S := fun K env s => it env s fun ds s1 => forD p body K ds env s1
def whileD (t : TT S) (body : TS S) (K : KE S) : Nat → Env → S → Prop
  | 0, _, _ => False
  | n + 1, env, s => t env s fun c s1 => if c = true then body { K with nx := whileD t body K n, ct := whileD t body K n, bk := K.nx } env s1 else K.nx env s1
def sWhile (t : TT S) (body : TS S) : TS S := fun K env s => ∃ n, whileD t body K n env s

/-! ### comprehensions -/
def wipeE (env : Env) : List Nat → Env
  | [] => env
  | i :: r => (wipeE env r).set i .no
def lcD (p : Pat) (t : TT S) (e : TE S) (env : Env) (Q : List D → S → Prop) : List D → List D → S → Prop
  | [], acc, s => Q acc s
  | d :: ds, acc, s => match p.put d env with
    | some env' => t env' s fun c s1 => if c = true then e env' s1 fun y s2 => acc.length < line ∧ lcD p t e env Q ds (acc ++ [y]) s2 else lcD p t e env Q ds acc s1
    | none => False
def tYes : TT S := fun _ s Q => Q true s
def eLc (it : TI S) (p : Pat) (t : TT S) (e : TE S) (vs : List Nat) : TE S := fun env s Q => it env s fun ds s1 => lcD p t e (wipeE env vs) (fun acc s2 => Q (.lst acc) s2) ds [] s1

/-- two fors -/
def lc2D (p : Pat) (t : TT S) (it1 : TI S) (p1 : Pat) (t1 : TT S) (e : TE S) (vs1 : List Nat) (env : Env) (Q : List D → S → Prop) : List D → List D → S → Prop
  | [], acc, s => Q acc s
  | d :: ds, acc, s => match p.put d env with
    | some env' => t env' s fun c s1 => if c = true then it1 env' s1 fun es s2 => lcD p1 t1 e (wipeE env' vs1) (fun acc' s3 => lc2D p t it1 p1 t1 e vs1 env Q ds acc' s3) es acc s2 else lc2D p t it1 p1 t1 e vs1 env Q ds acc s1
    | none => False
def eLc2 (it : TI S) (p : Pat) (t : TT S) (it1 : TI S) (p1 : Pat) (t1 : TT S) (e : TE S) (vs vs1 : List Nat) : TE S := fun env s Q => it env s fun ds s1 => lc2D p t it1 p1 t1 e vs1 (wipeE env vs) (fun acc s2 => Q (.lst acc) s2) ds [] s1

/-! ### a def -/
def startE (n : Nat) (ds : List D) : Env := ds.map .val ++ List.replicate (n - ds.length) .no
def fDef (n : Nat) (t : (D → S → Prop) → TS S) : FS S := fun ds s Q ex => t ex { nx := fun _ s1 => Q .non s1, rt := Q } (startE n ds) s

/-! ### operations on data -/
def okMul (i j : Int) : Prop := i.natAbs < 2 ^ 64 ∨ j.natAbs < 2 ^ 64 ∨ i.natAbs.log2 + j.natAbs.log2 < 1000000
def okDiv (j : Int) : Prop := j ≠ 0 ∧ j.natAbs.log2 < 9000
def opAdd : Op2
  | .int i, .int j, k => k (.int (i + j))
  | .str a, .str b, k => a.length + b.length ≤ line ∧ k (.str (a ++ b))
  | .tup xs, .tup ys, k => xs.length + ys.length ≤ line ∧ k (.tup (xs ++ ys))
  | _, _, _ => False
def opInc : Op2
  | .int i, .int j, k => k (.int (i + j))
  | _, _, _ => False
/-- list + list: a new list -/
def opCat : Op2
  | .lst xs, .lst ys, k => xs.length + ys.length ≤ line ∧ k (.lst (xs ++ ys))
  | _, _, _ => False
def opSub : Op2
  | .int i, .int j, k => k (.int (i - j))
  | _, _, _ => False
/-- of ints alone -/
def opMulI : Op2
  | .int i, .int j, k => okMul i j ∧ k (.int (i * j))
  | _, _, _ => False
def opMul : Op2
  | .int i, .int j, k => okMul i j ∧ k (.int (i * j))
  | .tup xs, .int n, k => n ≤ 1000 ∧ -1000 ≤ n ∧ xs.length ≤ 1000 ∧ xs ≠ [] ∧ k (.tup (List.replicate n.toNat xs).flatten)
  | _, _, _ => False
/-- list * int: a new list -/
def opRep : Op2
  | .lst xs, .int n, k => -(2 ^ 62) ≤ n ∧ n < 2 ^ 62 ∧ xs.length * n.toNat ≤ line ∧ k (.lst (List.replicate n.toNat xs).flatten)
  | _, _, _ => False
def opDiv : Op2
  | .int i, .int j, k => okDiv j ∧ k (.int (i.fdiv j))
  | _, _, _ => False
def opMod : Op2
  | .int i, .int j, k => j ≠ 0 ∧ k (.int (i.fmod j))
  | _, _, _ => False
def opPow : Op2
  | .int i, .int j, k => 0 ≤ j ∧ j ≤ 1000000 ∧ i.natAbs < 2 ^ 64 ∧ k (.int (i ^ j.toNat))
  | _, _, _ => False
def unNeg : Op1
  | .int i, k => k (.int (-i))
  | _, _ => False
def intsOf : List D → Option (List Int)
  | [] => some []
  | .int i :: xs => (intsOf xs).map (i :: ·)
  | _ :: _ => none
/-- by the first pair that differs; z: none does -/
def lexD (r : Int → Int → Bool) (z : Bool) : List Int → List Int → Bool
  | x :: xs, y :: ys => if x = y then lexD r z xs ys else r x y
  | _, _ => z
def opLt : Op2
  | .int i, .int j, k => k (.bl (decide (i < j)))
  | .tup xs, .tup ys, k => match intsOf xs, intsOf ys with
    | some ns, some ms => k (.bl (lexD (fun x y => decide (x < y)) (decide (ns.length < ms.length)) ns ms))
    | _, _ => False
  | _, _, _ => False
def opLe : Op2
  | .int i, .int j, k => k (.bl (decide (i ≤ j)))
  | .tup xs, .tup ys, k => match intsOf xs, intsOf ys with
    | some ns, some ms => k (.bl (lexD (fun x y => decide (x ≤ y)) (decide (ns.length ≤ ms.length)) ns ms))
    | _, _ => False
  | _, _, _ => False
def opGt : Op2
  | .int i, .int j, k => k (.bl (decide (j < i)))
  | .tup xs, .tup ys, k => match intsOf xs, intsOf ys with
    | some ns, some ms => k (.bl (lexD (fun x y => decide (y < x)) (decide (ms.length < ns.length)) ns ms))
    | _, _ => False
  | _, _, _ => False
def opGe : Op2
  | .int i, .int j, k => k (.bl (decide (j ≤ i)))
  | .tup xs, .tup ys, k => match intsOf xs, intsOf ys with
    | some ns, some ms => k (.bl (lexD (fun x y => decide (y ≤ x)) (decide (ms.length ≤ ns.length)) ns ms))
    | _, _ => False
  | _, _, _ => False
mutual
/-- as data of the library -/
def toPy : D → PySem.PyData
  | .non => .none
  | .bl b => .bool b
  | .int i => .int i
  | .str x => .str x
  | .tup xs => .tuple (toPys xs)
  | .lst xs => .list (toPys xs)
  | _ => .none
def toPys : List D → List PySem.PyData
  | [] => []
  | x :: xs => toPy x :: toPys xs
end
mutual
/-- plain data, at most so deep -/
def flat : Nat → D → Bool
  | _, .non => true
  | _, .bl _ => true
  | _, .int _ => true
  | _, .str x => PySem.PyData.strOk x
  | n + 1, .tup xs => flats n xs
  | n + 1, .lst xs => flats n xs
  | _, _ => false
def flats : Nat → List D → Bool
  | _, [] => true
  | n, x :: xs => flat n x && flats n xs
end
/-- how deep the data may be that are compared -/
def deep : Nat := 12
def opEq : Op2
  | .int i, .int j, k => k (.bl (decide (i = j)))
  | .str i, .str j, k => k (.bl (decide (i = j)))
  | x, y, k => flat deep x = true ∧ flat deep y = true ∧ k (.bl (PySem.PyData.eqv (toPy x) (toPy y)))
def opNe : Op2
  | .int i, .int j, k => k (.bl (!decide (i = j)))
  | .str i, .str j, k => k (.bl (!decide (i = j)))
  | x, y, k => flat deep x = true ∧ flat deep y = true ∧ k (.bl (!PySem.PyData.eqv (toPy x) (toPy y)))
/-- is None, is not None -/
def isNon : D → Bool
  | .non => true
  | _ => false
def opIsN : Op2
  | x, .non, k => k (.bl (isNon x))
  | _, _, _ => False
def opNotN : Op2
  | x, .non, k => k (.bl (!isNon x))
  | _, _, _ => False
/-- x in a list or tuple -/
def inD (x : D) (ys : List D) : Bool := ys.any fun y => PySem.PyData.eqv (toPy y) (toPy x)
def opIn : Op2
  | x, .lst ys, k => flat deep x = true ∧ flats deep ys = true ∧ k (.bl (inD x ys))
  | x, .tup ys, k => flat deep x = true ∧ flats deep ys = true ∧ k (.bl (inD x ys))
  | _, _, _ => False
def opNotIn : Op2
  | x, .lst ys, k => flat deep x = true ∧ flats deep ys = true ∧ k (.bl (!inD x ys))
  | x, .tup ys, k => flat deep x = true ∧ flats deep ys = true ∧ k (.bl (!inD x ys))
  | _, _, _ => False
def opIx : Op2
  | .lst xs, .int i, k => atD xs i k
  | .tup xs, .int i, k => atD xs i k
  | _, _, _ => False
/-! functions -/
def fnLen : OpN
  | [.str x], k => x.length ≤ line ∧ k (.int x.length)
  | [.lst xs], k => k (.int xs.length)
  | [.tup xs], k => k (.int xs.length)
  | _, _ => False
def fnAbs : OpN
  | [.int i], k => k (.int (if i < 0 then -i else i))
  | _, _ => False
def fnMax2 : OpN
  | [.int i, .int j], k => k (.int (if j > i then j else i))
  | _, _ => False
def fnMin2 : OpN
  | [.int i, .int j], k => k (.int (if j < i then j else i))
  | _, _ => False
def fnInt : OpN
  | [.int i], k => k (.int i)
  | [.bl b], k => k (.int (if b then 1 else 0))
  | _, _ => False
def fnGcd : OpN
  | [.int a, .int b], k => k (.int ((Nat.gcd a.natAbs b.natAbs : Nat) : Int))
  | _, _ => False
def blsOf : List D → Option (List Bool)
  | [] => some []
  | .bl i :: xs => (blsOf xs).map (i :: ·)
  | _ :: _ => none
def fnSum : OpN
  | [.lst xs], k => match intsOf xs with
    | some ns => k (.int ns.sum)
    | none => False
  | _, _ => False
def fnAll : OpN
  | [.lst xs], k => match blsOf xs with
    | some bs => k (.bl (bs.all id))
    | none => False
  | _, _ => False
def fnAnyB : OpN
  | [.lst xs], k => match blsOf xs with
    | some bs => k (.bl (bs.any id))
    | none => False
  | _, _ => False
def fnTuple : OpN
  | [.lst xs], k => k (.tup xs)
  | [.tup xs], k => k (.tup xs)
  | _, _ => False
/-- a new list -/
def fnList : OpN
  | [.lst xs], k => k (.lst xs)
  | [.tup xs], k => k (.lst xs)
  | _, _ => False
def tyOf : D → Option String
  | .non => some "NoneType"
  | .bl _ => some "bool"
  | .int _ => some "int"
  | .str _ => some "str"
  | .tup _ => some "tuple"
  | .lst _ => some "list"
  | .dK _ => some "dict"
  | .dT _ => some "dict"
  | _ => none
/-- whether a type is another one or below it -/
def subTy (t n : String) : Bool := t == n || (t == "bool" && n == "int")
/-- isinstance(x, T) -/
def eIsI (n : String) (a : TE S) : TE S := fun env s Q => a env s fun x s1 => match tyOf x with
  | some t => Q (.bl (subTy t n)) s1
  | none => False

/-! slices -/
def sIx (n d : Nat) : Option Int → Nat
  | none => d
  | some v => if v < 0 then (v + (n : Int)).toNat else min v.toNat n
def cutD (xs : List D) (lo hi : Option Int) : List D := (xs.drop (sIx xs.length 0 lo)).take (sIx xs.length xs.length hi - sIx xs.length 0 lo)
abbrev TO (S : Type) := Env → S → (Option Int → S → Prop) → Prop
def oNone : TO S := fun _ s Q => Q none s
def oSome (a : TE S) : TO S := fun env s Q => a env s fun x s1 => match x with
  | .int i => Q (some i) s1
  | _ => False
def eSlT (a : TE S) (lo hi : TO S) : TE S := fun env s Q => a env s fun x s1 => lo env s1 fun l s2 => hi env s2 fun h s3 => match x with
  | .tup xs => Q (.tup (cutD xs l h)) s3
  | _ => False
/-- a new list -/
def eSlL (a : TE S) (lo hi : TO S) : TE S := fun env s Q => a env s fun x s1 => lo env s1 fun l s2 => hi env s2 fun h s3 => match x with
  | .lst xs => Q (.lst (cutD xs l h)) s3
  | .scr xs => Q (.lst (cutD xs l h)) s3
  | _ => False
/-- xs[::-1], a new list -/
def eRev (a : TE S) : TE S := fun env s Q => a env s fun x s1 => match x with
  | .lst xs => Q (.lst xs.reverse) s1
  | _ => False
/-! ### more -/
def minL (m : Int) : List Int → Int
  | [] => m
  | x :: xs => minL (if x < m then x else m) xs
def maxL (m : Int) : List Int → Int
  | [] => m
  | x :: xs => maxL (if x > m then x else m) xs
def fnMin1 : OpN
  | [.lst xs], k => match intsOf xs with
    | some (n :: ns) => k (.int (minL n ns))
    | _ => False
  | _, _ => False
def fnMax1 : OpN
  | [.lst xs], k => match intsOf xs with
    | some (n :: ns) => k (.int (maxL n ns))
    | _ => False
  | _, _ => False
def opIsB : Op2
  | .bl a, .bl b, k => k (.bl (decide (a = b)))
  | _, _, _ => False
def opIsNotB : Op2
  | .bl a, .bl b, k => k (.bl (!decide (a = b)))
  | _, _, _ => False
/-- xs.index(y) -/
def firstAt (y : D) : List D → Option Nat
  | [] => none
  | x :: xs => if PySem.PyData.eqv (toPy x) (toPy y) = true then some 0 else (firstAt y xs).map (· + 1)
def opIdx : Op2
  | .lst xs, y, k => flat deep y = true ∧ flats deep xs = true ∧ match firstAt y xs with
    | some j => k (.int j)
    | none => False
  | _, _, _ => False
def isLst : D → Prop
  | .lst _ => True
  | _ => False
/-- a method of a list -/
def eMeL (f : Op2) (a b : TE S) : TE S := fun env s Q => a env s fun x s1 => isLst x ∧ b env s1 fun y s2 => f x y fun z => Q z s2
/-- xs.extend(ys) -/
def sExt (i : Nat) (a : TE S) : TS S := fun K env s => match env[i]? with
  | some (.own (.lst ds)) => a env s fun d s1 => match d with
    | .lst es => ds.length + es.length ≤ line ∧ K.nx (env.set i (.own (.lst (ds ++ es)))) s1
    | _ => False
  | _ => False
/-! dicts -/
def atK {κ : Type} [DecidableEq κ] (k : κ) : List (κ × D) → Option D
  | [] => none
  | p :: r => if p.1 = k then some p.2 else atK k r
def putA {κ : Type} [DecidableEq κ] (kvs : List (κ × D)) (k : κ) (v : D) : List (κ × D) :=
  if (kvs.any fun kv => decide (kv.1 = k)) = true then kvs.map (fun kv => if kv.1 = k then (kv.1, v) else kv) else kvs ++ [(k, v)]
def keyOf : D → Option Key
  | .int i => some (.inl i)
  | .str x => some (.inr x)
  | _ => none
def keysOf : List D → Option (List Key)
  | [] => some []
  | d :: ds => match keyOf d, keysOf ds with
    | some k, some ks => some (k :: ks)
    | _, _ => none
def opDget : Op2
  | .dK kvs, y, k => match keyOf y with
    | some q => match atK q kvs with
      | some d => k d
      | none => False
    | none => False
  | .dT kvs, .tup ys, k => match keysOf ys with
    | some q => match atK q kvs with
      | some d => k d
      | none => False
    | none => False
  | _, _, _ => False
def opDin : Op2
  | y, .dK kvs, k => match keyOf y with
    | some q => k (.bl (atK q kvs).isSome)
    | none => False
  | .tup ys, .dT kvs, k => match keysOf ys with
    | some q => k (.bl (atK q kvs).isSome)
    | none => False
  | _, _, _ => False
def opDnotIn : Op2
  | y, .dK kvs, k => match keyOf y with
    | some q => k (.bl (!(atK q kvs).isSome))
    | none => False
  | .tup ys, .dT kvs, k => match keysOf ys with
    | some q => k (.bl (!(atK q kvs).isSome))
    | none => False
  | _, _, _ => False
/-- {'a': .., 'b': ..}, the keys apart -/
def eDk (ks : List Str) (a : TA S) : TE S := fun env s Q => a env s fun ds s1 => Q (.dK ((ks.map .inr).zip ds)) s1
def dcT (p : Pat) (t : TT S) (ek ev : TE S) (env : Env) (Q : List (List Key × D) → S → Prop) : List D → List (List Key × D) → S → Prop
  | [], acc, s => Q acc s
  | d :: ds, acc, s => match p.put d env with
    | some env' => t env' s fun c s1 => if c = true then ek env' s1 fun y s2 => ev env' s2 fun z s3 => match y with
        | .tup xs => match keysOf xs with
          | some q => acc.length < line ∧ dcT p t ek ev env Q ds (putA acc q z) s3
          | none => False
        | _ => False
      else dcT p t ek ev env Q ds acc s1
    | none => False
/-- {k: v for ..}, the keys tuples -/
def eDcT (it : TI S) (p : Pat) (t : TT S) (ek ev : TE S) (vs : List Nat) : TE S := fun env s Q => it env s fun ds s1 => dcT p t ek ev (wipeE env vs) (fun acc s2 => Q (.dT acc) s2) ds [] s1
def dcK (p : Pat) (t : TT S) (ek ev : TE S) (env : Env) (Q : List (Key × D) → S → Prop) : List D → List (Key × D) → S → Prop
  | [], acc, s => Q acc s
  | d :: ds, acc, s => match p.put d env with
    | some env' => t env' s fun c s1 => if c = true then ek env' s1 fun y s2 => ev env' s2 fun z s3 => match keyOf y with
        | some q => acc.length < line ∧ dcK p t ek ev env Q ds (putA acc q z) s3
        | none => False
      else dcK p t ek ev env Q ds acc s1
    | none => False
/-- {k: v for ..}, the keys ints and texts -/
def eDcK (it : TI S) (p : Pat) (t : TT S) (ek ev : TE S) (vs : List Nat) : TE S := fun env s Q => it env s fun ds s1 => dcK p t ek ev (wipeE env vs) (fun acc s2 => Q (.dK acc) s2) ds [] s1
/-- combinations(xs, r) -/
def combs : Nat → List D → List (List D)
  | 0, _ => [[]]
  | _ + 1, [] => []
  | r + 1, x :: xs => (combs r xs).map (x :: ·) ++ combs (r + 1) xs
def combL : List D → (List D → Prop) → Prop
  | [x, .int r], k => 0 ≤ r ∧ items x fun xs => xs.length ≤ 1000 ∧ r.toNat ≤ 1000 ∧ k ((combs r.toNat xs).map .tup)
  | _, _ => False
def iComb (a : TA S) : TI S := fun env s Q => a env s fun ds s1 => combL ds fun xs => Q xs s1
def aApp (a b : TA S) : TA S := fun env s Q => a env s fun xs s1 => b env s1 fun ys s2 => Q (xs ++ ys) s2
def pick {α : Type} (perm : List Nat) (xs : List α) : List α := perm.filterMap fun i => xs[i]?
/-- a call with keywords: the arguments in the order of the text, put in the order of the parameters -/
def eCallK (f : FS S) (ex : D → S → Prop) (g : List D → List D) (a : TA S) : TE S := fun env s Q => a env s fun xs s1 => f (g xs) s1 Q ex
/-- what of a law is proved by hand: its draws -/
structure Ext (S : Type) where
  deck : FS S
  draw : FS S
end
end DL

end
section
set_option linter.all false
set_option maxRecDepth 100000
set_option autoImplicit false
/-! The data layer, sound part 1: how data lies in the abstract heap; judgements. -/
namespace DL
open PySem L2

mutual
/-- the value v is the data d, by the objects that F holds (they never change) -/
inductive Rep (K : PySem.W.Frag) (F : Hp) : V → D → Prop
  | non : Rep K F .non .non
  | bl (b : Bool) : Rep K F (.bl b) (.bl b)
  | int (i : Int) : Rep K F (.int i) (.int i)
  | str (x : PySem.Str) : Rep K F (.str x) (.str x)
  | ty (n : String) : Rep K F (.ty n) (.ty n)
  | obj (a : Addr) : Rep K F (.ref a) (.obj a)
  | tup {a : Addr} {vs : List V} {ds : List D} : F a = some (.tup vs) → RepL K F vs ds → Rep K F (.ref a) (.tup ds)
  | lst {a : Addr} {vs : List V} {ds : List D} : F a = some (.lst vs) → RepL K F vs ds → Rep K F (.ref a) (.lst ds)
  | scr {a : Addr} {vs : List V} {ds : List D} : SqL K F a vs → RepL K F vs ds → Rep K F (.ref a) (.scr ds)
  | dK {a : Addr} {kvs : List (Key × V)} {ks : List Key} {vs : List V} {ds : List D} : F a = some (.dK kvs) → kvs = ks.zip vs → RepL K F vs ds → ks.length = vs.length → Rep K F (.ref a) (.dK (ks.zip ds))
  | dT {a : Addr} {kvs : List (List Key × V)} {ks : List (List Key)} {vs : List V} {ds : List D} : F a = some (.dT kvs) → kvs = ks.zip vs → RepL K F vs ds → ks.length = vs.length → Rep K F (.ref a) (.dT (ks.zip ds))
inductive RepL (K : PySem.W.Frag) (F : Hp) : List V → List D → Prop
  | nil : RepL K F [] []
  | cons {v : V} {d : D} {vs : List V} {ds : List D} : Rep K F v d → RepL K F vs ds → RepL K F (v :: vs) (d :: ds)
end

theorem sqT_mono {K : PySem.W.Frag} {H H' : Hp} {a : Addr} {xs : List V} (e : Same H H') (h : SqT K H a xs) : SqT K H' a xs := by
  rcases h with (h | ⟨o, h⟩) | h
  · exact .inl (.inl (e _ _ h))
  · exact .inl (.inr ⟨o, e _ _ h⟩)
  · exact .inr h

section
variable {K : PySem.W.Frag} {F F' : Hp}
mutual
theorem Rep.mono (e : Same F F') : ∀ {v : V} {d : D}, Rep K F v d → Rep K F' v d
  | _, _, .non => .non
  | _, _, .bl b => .bl b
  | _, _, .int i => .int i
  | _, _, .str x => .str x
  | _, _, .ty n => .ty n
  | _, _, .obj a => .obj a
  | _, _, .tup h r => .tup (e _ _ h) (RepL.mono e r)
  | _, _, .lst h r => .lst (e _ _ h) (RepL.mono e r)
  | _, _, .scr h r => .scr (e.seq h) (RepL.mono e r)
  | _, _, .dK h q r l => .dK (e _ _ h) q (RepL.mono e r) l
  | _, _, .dT h q r l => .dT (e _ _ h) q (RepL.mono e r) l
theorem RepL.mono (e : Same F F') : ∀ {vs : List V} {ds : List D}, RepL K F vs ds → RepL K F' vs ds
  | _, _, .nil => .nil
  | _, _, .cons h r => .cons (Rep.mono e h) (RepL.mono e r)
end
theorem RepL.length : ∀ {vs : List V} {ds : List D}, RepL K F vs ds → vs.length = ds.length
  | _, _, .nil => rfl
  | _, _, .cons _ r => congrArg (· + 1) (RepL.length r)
theorem RepL.get : ∀ {vs : List V} {ds : List D} (i : Nat), RepL K F vs ds → ∀ {v : V}, vs[i]? = some v → ∃ d, ds[i]? = some d ∧ Rep K F v d
  | _, _, _, .nil, _, e => by simp at e
  | _, _, 0, .cons h _, _, e => by simp at e; subst e; exact ⟨_, rfl, h⟩
  | _, _, i + 1, .cons _ r, _, e => by
    obtain ⟨d, h1, h2⟩ := RepL.get i r (by simpa using e)
    exact ⟨d, by simpa using h1, h2⟩
theorem RepL.getD' : ∀ {vs : List V} {ds : List D} (i : Nat), RepL K F vs ds → ∀ {d : D}, ds[i]? = some d → ∃ v, vs[i]? = some v ∧ Rep K F v d
  | _, _, _, .nil, _, e => by simp at e
  | _, _, 0, .cons h _, _, e => by simp at e; subst e; exact ⟨_, rfl, h⟩
  | _, _, i + 1, .cons _ r, _, e => by
    obtain ⟨d, h1, h2⟩ := RepL.getD' i r (by simpa using e)
    exact ⟨d, by simpa using h1, h2⟩
theorem RepL.append : ∀ {vs us : List V} {ds es : List D}, RepL K F vs ds → RepL K F us es → RepL K F (vs ++ us) (ds ++ es)
  | _, _, _, _, .nil, r => r
  | _, _, _, _, .cons h r, q => .cons h (RepL.append r q)
theorem RepL.take : ∀ (n : Nat) {vs : List V} {ds : List D}, RepL K F vs ds → RepL K F (vs.take n) (ds.take n)
  | 0, _, _, _ => .nil
  | _ + 1, _, _, .nil => .nil
  | n + 1, _, _, .cons h r => .cons h (RepL.take n r)
theorem RepL.drop : ∀ (n : Nat) {vs : List V} {ds : List D}, RepL K F vs ds → RepL K F (vs.drop n) (ds.drop n)
  | 0, _, _, r => r
  | _ + 1, _, _, .nil => .nil
  | n + 1, _, _, .cons _ r => RepL.drop n r
theorem RepL.set {v : V} {d : D} (h : Rep K F v d) : ∀ (n : Nat) {vs : List V} {ds : List D}, RepL K F vs ds → RepL K F (vs.set n v) (ds.set n d)
  | _, _, _, .nil => .nil
  | 0, _, _, .cons _ r => .cons h r
  | n + 1, _, _, .cons q r => .cons q (RepL.set h n r)
theorem RepL.one {v : V} {d : D} (h : Rep K F v d) : RepL K F [v] [d] := .cons h .nil
theorem RepL.ints : ∀ ns : List Int, RepL K F (ns.map .int) (ns.map .int)
  | [] => .nil
  | n :: ns => .cons (.int n) (RepL.ints ns)
theorem RepL.rep {v : V} {d : D} (h : Rep K F v d) : ∀ n : Nat, RepL K F (List.replicate n v) (List.replicate n d)
  | 0 => .nil
  | n + 1 => .cons h (RepL.rep h n)
end

/-- an object of its own: what stands there, the items by F -/
inductive OwnR (K : PySem.W.Frag) (F : Hp) : HO → D → Prop
  | lst {vs : List V} {ds : List D} : RepL K F vs ds → OwnR K F (.lst vs) (.lst ds)
  | dK {ks : List Key} {vs : List V} {ds : List D} : RepL K F vs ds → ks.length = vs.length → OwnR K F (.dK (ks.zip vs)) (.dK (ks.zip ds))
  | dT {ks : List (List Key)} {vs : List V} {ds : List D} : RepL K F vs ds → ks.length = vs.length → OwnR K F (.dT (ks.zip vs)) (.dT (ks.zip ds))
theorem OwnR.mono {K : PySem.W.Frag} {F F' : Hp} (e : Same F F') {o : HO} {d : D} (h : OwnR K F o d) : OwnR K F' o d := by
  cases h with
  | lst r => exact .lst (r.mono e)
  | dK r l => exact .dK (r.mono e) l
  | dT r l => exact .dT (r.mono e) l

/-- F: what never changes; S: what is shared; both within H, apart -/
structure HOK (F S H : Hp) : Prop where
  fh : Same F H
  sh : Same S H
  ap : ∀ a, F a ≠ none → S a = none

/-- from one state to a later one -/
structure Go (F S H F' S' H' : Hp) : Prop where
  ff : Same F F'
  ok : HOK F' S' H'
  keep : ∀ a o, H a = some o → S a = none → H' a = some o
  dom : ∀ a, H a ≠ none → H' a ≠ none
  nf : ∀ a, F' a ≠ none → F a ≠ none ∨ H a = none
  ns : ∀ a, S' a ≠ none → S a ≠ none ∨ H a = none
theorem Go.refl {F S H : Hp} (ok : HOK F S H) : Go F S H F S H := ⟨Same.refl F, ok, fun _ _ h _ => h, fun _ h => h, fun _ h => .inl h, fun _ h => .inl h⟩
theorem Go.trans {F S H F1 S1 H1 F2 S2 H2 : Hp} (a : Go F S H F1 S1 H1) (b : Go F1 S1 H1 F2 S2 H2) : Go F S H F2 S2 H2 := by
  refine ⟨a.ff.trans b.ff, b.ok, fun x o h hs => ?_, fun x h => b.dom x (a.dom x h), fun x h => ?_, fun x h => ?_⟩
  · refine b.keep x o (a.keep x o h hs) ?_
    cases q : S1 x with
    | none => rfl
    | some u =>
      rcases a.ns x (by rw [q]; exact fun z => nomatch z) with z | z
      · exact absurd hs z
      · rw [h] at z; cases z
  · rcases b.nf x h with z | z
    · exact a.nf x z
    · cases q : H x with
      | none => exact .inr rfl
      | some u => exact absurd z (a.dom x (by rw [q]; exact fun z => nomatch z))
  · rcases b.ns x h with z | z
    · exact a.ns x z
    · cases q : H x with
      | none => exact .inr rfl
      | some u => exact absurd z (a.dom x (by rw [q]; exact fun z => nomatch z))
/-- a new object that never changes -/
theorem Go.new {F S H : Hp} (ok : HOK F S H) {p : Addr} (hp : H p = none) (o : HO) : Go F S H (upd F p o) S (upd H p o) := by
  have hF : F p = none := ok.fh.free hp
  have hS : S p = none := ok.sh.free hp
  refine ⟨fun a u h => ?_, ⟨fun a u h => ?_, fun a u h => ?_, fun a h => ?_⟩, fun a u h _ => ?_, fun a h => ?_, fun a h => ?_, fun a h => .inl h⟩
  · rw [upd_ne (ne_of_none h hF)]; exact h
  · by_cases e : a = p
    · subst e; rw [upd_same] at h ⊢; exact h
    · rw [upd_ne e] at h ⊢; exact ok.fh _ _ h
  · rw [upd_ne (ne_of_none h hS)]; exact ok.sh _ _ h
  · by_cases e : a = p
    · subst e; exact hS
    · rw [upd_ne e] at h; exact ok.ap a h
  · rw [upd_ne (ne_of_none h hp)]; exact h
  · by_cases e : a = p
    · subst e; rw [upd_same]; exact fun z => nomatch z
    · rw [upd_ne e]; exact h
  · by_cases e : a = p
    · subst e; exact .inr hp
    · rw [upd_ne e] at h; exact .inl h
/-- a new object that is not yet known -/
theorem Go.newH {F S H : Hp} (ok : HOK F S H) {p : Addr} (hp : H p = none) (o : HO) : Go F S H F S (upd H p o) := by
  have hF : F p = none := ok.fh.free hp
  have hS : S p = none := ok.sh.free hp
  refine ⟨Same.refl F, ⟨fun a u h => ?_, fun a u h => ?_, ok.ap⟩, fun a u h _ => ?_, fun a h => ?_, fun a h => .inl h, fun a h => .inl h⟩
  · rw [upd_ne (ne_of_none h hF)]; exact ok.fh _ _ h
  · rw [upd_ne (ne_of_none h hS)]; exact ok.sh _ _ h
  · rw [upd_ne (ne_of_none h hp)]; exact h
  · by_cases e : a = p
    · subst e; rw [upd_same]; exact fun z => nomatch z
    · rw [upd_ne e]; exact h

/-- how a slot lies -/
inductive SlR (K : PySem.W.Frag) (B F S H : Hp) : Option V → Sl → Prop
  | no {o : Option V} : SlR K B F S H o .no
  | val {v : V} {d : D} : Rep K F v d → SlR K B F S H (some v) (.val d)
  | own {a : Addr} {o : HO} {d : D} : B a = none → F a = none → S a = none → H a = some o → OwnR K F o d → SlR K B F S H (some (.ref a)) (.own d)
/-- the slots: own objects stand apart -/
structure StR (K : PySem.W.Frag) (B F S : Hp) (env : Env) (σ : L2.St) (H : Hp) : Prop where
  ok : HOK F S H
  len : env.length = σ.length
  sl : ∀ (i : Nat) (e : Sl) (o : Option V), env[i]? = some e → σ[i]? = some o → SlR K B F S H o e
  ap : ∀ (i j : Nat) (d d' : D) (a : Addr), i ≠ j → env[i]? = some (.own d) → env[j]? = some (.own d') → σ[i]? = some (some (.ref a)) → σ[j]? = some (some (.ref a)) → False
section
variable {K : PySem.W.Frag} {B F S H F' S' H' : Hp} {env : Env} {σ : L2.St}
theorem SlR.go {o : Option V} {e : Sl} (g : Go F S H F' S' H') (h : SlR K B F S H o e) : SlR K B F' S' H' o e := by
  cases h with
  | no => exact .no
  | val r => exact .val (r.mono g.ff)
  | own b f s q r =>
    refine .own b ?_ ?_ (g.keep _ _ q s) (r.mono g.ff)
    · rename_i a _ _
      cases z : F' a with
      | none => rfl
      | some u =>
        rcases g.nf a (by rw [z]; exact fun z => nomatch z) with y | y
        · exact absurd f y
        · rw [q] at y; cases y
    · rename_i a _ _
      cases z : S' a with
      | none => rfl
      | some u =>
        rcases g.ns a (by rw [z]; exact fun z => nomatch z) with y | y
        · exact absurd s y
        · rw [q] at y; cases y
theorem StR.go (g : Go F S H F' S' H') (h : StR K B F S env σ H) : StR K B F' S' env σ H' :=
  ⟨g.ok, h.len, fun i e o h1 h2 => (h.sl i e o h1 h2).go g, h.ap⟩
theorem StR.slot (h : StR K B F S env σ H) {i : Nat} {e : Sl} (q : env[i]? = some e) : ∃ o, σ[i]? = some o ∧ SlR K B F S H o e := by
  have hi : i < σ.length := by rw [← h.len]; exact (List.getElem?_eq_some_iff.mp q).1
  exact ⟨σ[i], List.getElem?_eq_getElem hi, h.sl i e _ q (List.getElem?_eq_getElem hi)⟩
theorem StR.val (h : StR K B F S env σ H) {i : Nat} {d : D} (q : env[i]? = some (.val d)) : ∃ v, σ[i]? = some (some v) ∧ Rep K F v d := by
  obtain ⟨o, h1, h2⟩ := h.slot q
  cases h2 with
  | val r => exact ⟨_, h1, r⟩
theorem StR.own (h : StR K B F S env σ H) {i : Nat} {d : D} (q : env[i]? = some (.own d)) : ∃ a o, σ[i]? = some (some (.ref a)) ∧ B a = none ∧ F a = none ∧ S a = none ∧ H a = some o ∧ OwnR K F o d := by
  obtain ⟨o, h1, h2⟩ := h.slot q
  cases h2 with
  | own b f s q r => exact ⟨_, _, h1, b, f, s, q, r⟩
/-- a slot gets a value -/
theorem StR.set (h : StR K B F S env σ H) (i : Nat) {v : V} {d : D} (r : Rep K F v d) : StR K B F S (env.set i (.val d)) (σ.set i (some v)) H := by
  refine ⟨h.ok, by simp [h.len], fun j e o h1 h2 => ?_, fun j k d1 d2 a hjk h1 h2 h3 h4 => ?_⟩
  · by_cases e1 : i = j
    · subst e1
      have hi : i < env.length := by have := (List.getElem?_eq_some_iff.mp h1).1; simpa using this
      have hs : i < σ.length := by rw [← h.len]; exact hi
      rw [List.getElem?_set_self hi] at h1
      rw [List.getElem?_set_self hs] at h2
      cases h1; cases h2
      exact .val r
    · rw [List.getElem?_set_ne e1] at h1 h2
      exact h.sl j e o h1 h2
  · have n1 : i ≠ j := fun z => by
      subst z
      have hi : i < env.length := by have := (List.getElem?_eq_some_iff.mp h1).1; simpa using this
      rw [List.getElem?_set_self hi] at h1; cases h1
    have n2 : i ≠ k := fun z => by
      subst z
      have hi : i < env.length := by have := (List.getElem?_eq_some_iff.mp h2).1; simpa using this
      rw [List.getElem?_set_self hi] at h2; cases h2
    rw [List.getElem?_set_ne n1] at h1 h3
    rw [List.getElem?_set_ne n2] at h2 h4
    exact h.ap j k d1 d2 a hjk h1 h2 h3 h4
/-- a slot gets a new object of its own -/
theorem StR.setOwn (h : StR K B F S env σ H) (i : Nat) {p : Addr} {o : HO} {d : D} (hb : B p = none) (hf : F p = none) (hs : S p = none) (hh : H p = some o) (r : OwnR K F o d)
    (hn : ∀ (j : Nat) (d' : D), env[j]? = some (.own d') → σ[j]? ≠ some (some (.ref p))) : StR K B F S (env.set i (.own d)) (σ.set i (some (.ref p))) H := by
  refine ⟨h.ok, by simp [h.len], fun j e o' h1 h2 => ?_, fun j k d1 d2 a hjk h1 h2 h3 h4 => ?_⟩
  · by_cases e1 : i = j
    · subst e1
      have hi : i < env.length := by have := (List.getElem?_eq_some_iff.mp h1).1; simpa using this
      have hs' : i < σ.length := by rw [← h.len]; exact hi
      rw [List.getElem?_set_self hi] at h1
      rw [List.getElem?_set_self hs'] at h2
      cases h1; cases h2
      exact .own hb hf hs hh r
    · rw [List.getElem?_set_ne e1] at h1 h2
      exact h.sl j e o' h1 h2
  · by_cases n1 : i = j
    · subst n1
      have n2 : i ≠ k := hjk
      have hi : i < env.length := by have := (List.getElem?_eq_some_iff.mp h1).1; simpa using this
      have hs' : i < σ.length := by rw [← h.len]; exact hi
      rw [List.getElem?_set_self hs'] at h3
      cases h3
      rw [List.getElem?_set_ne n2] at h2 h4
      exact hn k d2 h2 h4
    · by_cases n2 : i = k
      · subst n2
        have hi : i < env.length := by have := (List.getElem?_eq_some_iff.mp h2).1; simpa using this
        have hs' : i < σ.length := by rw [← h.len]; exact hi
        rw [List.getElem?_set_self hs'] at h4
        cases h4
        rw [List.getElem?_set_ne n1] at h1 h3
        exact hn j d1 h1 h3
      · rw [List.getElem?_set_ne n1] at h1 h3
        rw [List.getElem?_set_ne n2] at h2 h4
        exact h.ap j k d1 d2 a hjk h1 h2 h3 h4
theorem StR.wipe1 (h : StR K B F S env σ H) (i : Nat) : StR K B F S (env.set i .no) (σ.set i none) H := by
  refine ⟨h.ok, by simp [h.len], fun j e o h1 h2 => ?_, fun j k d1 d2 a hjk h1 h2 h3 h4 => ?_⟩
  · by_cases e1 : i = j
    · subst e1
      have hi : i < env.length := by have := (List.getElem?_eq_some_iff.mp h1).1; simpa using this
      rw [List.getElem?_set_self hi] at h1
      cases h1
      exact .no
    · rw [List.getElem?_set_ne e1] at h1 h2
      exact h.sl j e o h1 h2
  · have n1 : i ≠ j := fun z => by
      subst z
      have hi : i < env.length := by have := (List.getElem?_eq_some_iff.mp h1).1; simpa using this
      rw [List.getElem?_set_self hi] at h1; cases h1
    have n2 : i ≠ k := fun z => by
      subst z
      have hi : i < env.length := by have := (List.getElem?_eq_some_iff.mp h2).1; simpa using this
      rw [List.getElem?_set_self hi] at h2; cases h2
    rw [List.getElem?_set_ne n1] at h1 h3
    rw [List.getElem?_set_ne n2] at h2 h4
    exact h.ap j k d1 d2 a hjk h1 h2 h3 h4
end
end DL

end
section
set_option linter.all false
set_option maxRecDepth 100000
set_option autoImplicit false
/-! The data layer, sound part 2: expressions. -/
namespace DL
open PySem L2

/-! ### weaker readings -/
section
variable {X : Cx}
theorem pe_weak {e : Expr} {t t' : L2.TE} (h : PE X e t) (w : ∀ σ H Q, t' σ H Q → t σ H Q) : PE X e t' := ⟨fun pins s σ H Q I q => h.run pins s σ H Q I (w _ _ _ q)⟩
theorem pt_weak {e : Expr} {t t' : L2.TT} (h : PT X e t) (w : ∀ σ H Q, t' σ H Q → t σ H Q) : PT X e t' := ⟨fun pins s σ H Q I q => h.run pins s σ H Q I (w _ _ _ q)⟩
theorem pw_weak {e : Expr} {t t' : L2.TT} (h : PW X e t) (w : ∀ σ H Q, t' σ H Q → t σ H Q) : PW X e t' := ⟨fun wh pins s σ H Q I q => h.run wh pins s σ H Q I (w _ _ _ q)⟩
theorem pa_weak {es : List Expr} {t t' : L2.TA} (h : PA X es t) (w : ∀ σ H Q, t' σ H Q → t σ H Q) : PA X es t' := ⟨fun pos pins s σ H Q I q => h.run pos pins s σ H Q I (w _ _ _ q)⟩
theorem ps_weak {st : Stmt} {t t' : L2.TS} (h : PS X st t) (w : ∀ D σ H, t' D σ H → t D σ H) : PS X st t' := ⟨fun pins s σ H D I q => h.run pins s σ H D I (w _ _ _ q)⟩
theorem pss_weak {st : List Stmt} {t t' : L2.TS} (h : PSs X st t) (w : ∀ D σ H, t' D σ H → t D σ H) : PSs X st t' := ⟨fun pins s σ H D I q => h.run pins s σ H D I (w _ _ _ q)⟩
theorem pi_weak {tg it : Expr} {t t' : L2.TI} (h : PI X tg it t) (w : ∀ σ H R, t' σ H R → t σ H R) : PI X tg it t' := ⟨fun pins s σ H R I q => h.run pins s σ H R I (w _ _ _ q)⟩
theorem pts_weak {es : List Expr} {t t' : L2.TT} (h : PTs X es t) (w : ∀ σ H Q, t' σ H Q → t σ H Q) : PTs X es t' := ⟨fun pins s σ H Q I q => h.run pins s σ H Q I (w _ _ _ q)⟩
end

/-- a value that nothing else keeps: a value, or an object of its own -/
def RepB (K : PySem.W.Frag) (F S H : Hp) (v : V) (d : D) : Prop := Rep K F v d ∨ ∃ a o, v = .ref a ∧ S a = none ∧ H a = some o ∧ OwnR K F o d
inductive RepLB (K : PySem.W.Frag) (F S H : Hp) : List V → List D → Prop
  | nil : RepLB K F S H [] []
  | cons {v : V} {d : D} {vs : List V} {ds : List D} : RepB K F S H v d → RepLB K F S H vs ds → RepLB K F S H (v :: vs) (d :: ds)
section
variable {K : PySem.W.Frag} {F S H F' S' H' : Hp} {env : Env} {σ : L2.St}
theorem RepB.go {v : V} {d : D} (g : Go F S H F' S' H') (h : RepB K F S H v d) : RepB K F' S' H' v d := by
  rcases h with h | ⟨a, o, e, hs, hh, r⟩
  · exact .inl (h.mono g.ff)
  · refine .inr ⟨a, o, e, ?_, g.keep _ _ hh hs, r.mono g.ff⟩
    cases z : S' a with
    | none => rfl
    | some u =>
      rcases g.ns a (by rw [z]; exact fun z => nomatch z) with y | y
      · exact absurd hs y
      · rw [hh] at y; cases y
theorem RepLB.go {vs : List V} {ds : List D} (g : Go F S H F' S' H') (h : RepLB K F S H vs ds) : RepLB K F' S' H' vs ds := by
  induction h with
  | nil => exact .nil
  | cons r _ ih => exact .cons (r.go g) ih
theorem RepLB.of {vs : List V} {ds : List D} (h : RepL K F vs ds) : RepLB K F S H vs ds := by
  induction ds generalizing vs with
  | nil => cases h; exact .nil
  | cons d ds ih =>
    cases h with
    | cons r q => exact .cons (.inl r) (ih q)
/-- a list that may be read, by its items -/
theorem RepB.list {v : V} {ds : List D} (ok : HOK F S H) (h : RepB K F S H v (.lst ds)) : ∃ a vs, v = .ref a ∧ H a = some (.lst vs) ∧ RepL K F vs ds := by
  rcases h with h | ⟨a, o, e, hs, hh, r⟩
  · cases h with
    | lst q r => exact ⟨_, _, rfl, ok.fh _ _ q, r⟩
  · cases r with
    | lst r => exact ⟨a, _, e, hh, r⟩
theorem RepB.tup {v : V} {ds : List D} (ok : HOK F S H) (h : RepB K F S H v (.tup ds)) : ∃ a vs, v = .ref a ∧ SqT K H a vs ∧ RepL K F vs ds := by
  rcases h with h | ⟨a, o, e, hs, hh, r⟩
  · cases h with
    | tup q r => exact ⟨_, _, rfl, .of (ok.fh _ _ q), r⟩
  · cases r
theorem RepB.int {v : V} {i : Int} (h : RepB K F S H v (.int i)) : v = .int i := by
  rcases h with h | ⟨a, o, e, hs, hh, r⟩
  · cases h; rfl
  · cases r
theorem RepB.bl {v : V} {i : Bool} (h : RepB K F S H v (.bl i)) : v = .bl i := by
  rcases h with h | ⟨a, o, e, hs, hh, r⟩
  · cases h; rfl
  · cases r
theorem RepB.str {v : V} {i : Str} (h : RepB K F S H v (.str i)) : v = .str i := by
  rcases h with h | ⟨a, o, e, hs, hh, r⟩
  · cases h; rfl
  · cases r
theorem RepB.non {v : V} (h : RepB K F S H v .non) : v = .non := by
  rcases h with h | ⟨a, o, e, hs, hh, r⟩
  · cases h; rfl
  · cases r
theorem RepB.obj {v : V} {a : Nat} (h : RepB K F S H v (.obj a)) : v = .ref a := by
  rcases h with h | ⟨a, o, e, hs, hh, r⟩
  · cases h; rfl
  · cases r
/-- a new object becomes a value -/
theorem Go.frz {p : Addr} {o : HO} (g : Go F S H F' S' H') (hp : H p = none) (fp : F' p = none) (sp : S' p = none) (hh : H' p = some o) : Go F S H (upd F' p o) S' H' := by
  refine ⟨fun a u h => ?_, ⟨fun a u h => ?_, g.ok.sh, fun a h => ?_⟩, g.keep, g.dom, fun a h => ?_, g.ns⟩
  · rw [upd_ne (ne_of_none (g.ff _ _ h) fp)]; exact g.ff _ _ h
  · by_cases e : a = p
    · subst e; rw [upd_same] at h; cases h; exact hh
    · rw [upd_ne e] at h; exact g.ok.fh _ _ h
  · by_cases e : a = p
    · subst e; exact sp
    · rw [upd_ne e] at h; exact g.ok.ap a h
  · by_cases e : a = p
    · subst e; exact .inr hp
    · rw [upd_ne e] at h; exact g.nf a h
theorem OwnR.rep {p : Addr} {o : HO} {d : D} (fp : F p = none) (r : OwnR K F o d) : Rep K (upd F p o) (.ref p) d := by
  have e : Same F (upd F p o) := fun a u h => by rw [upd_ne (ne_of_none h fp)]; exact h
  cases r with
  | lst r => exact .lst upd_same (r.mono e)
  | dK r l => exact .dK upd_same rfl (r.mono e) l
  | dT r l => exact .dT upd_same rfl (r.mono e) l
end

/-! ### the readings by data -/
section
variable (K : PySem.W.Frag)
def lift (T : TE Hp) : L2.TE := fun σ H Qv => ∃ B F S env Q, StR K B F S env σ H ∧ T env S Q ∧ ∀ d S' F' H' v, Go F S H F' S' H' → Rep K F' v d → Q d S' → Qv v H'
def liftB (T : TE Hp) : L2.TE := fun σ H Qv => ∃ B F S env Q, StR K B F S env σ H ∧ T env S Q ∧ ∀ d S' F' H' v, Go F S H F' S' H' → RepB K F' S' H' v d → Q d S' → Qv v H'
/-- a new object -/
def liftF (T : TE Hp) : L2.TE := fun σ H Qv => ∃ B F S env Q, StR K B F S env σ H ∧ T env S Q ∧ ∀ d S' F' H' p o, Go F S H F' S' H' → H p = none → F' p = none → S' p = none → H' p = some o → OwnR K F' o d → Q d S' → Qv (.ref p) H'
def liftT (T : TT Hp) : L2.TT := fun σ H Qb => ∃ B F S env Q, StR K B F S env σ H ∧ T env S Q ∧ ∀ b S' F' H', Go F S H F' S' H' → Q b S' → Qb b H'
def liftA (n : Nat) (T : TA Hp) : L2.TA := fun σ H Qs => ∃ B F S env Q, StR K B F S env σ H ∧ T env S Q ∧ ∀ ds S' F' H' vs, Go F S H F' S' H' → RepL K F' vs ds → ds.length = n → Q ds S' → Qs vs H'
def liftAB (T : TA Hp) : L2.TA := fun σ H Qs => ∃ B F S env Q, StR K B F S env σ H ∧ T env S Q ∧ ∀ ds S' F' H' vs, Go F S H F' S' H' → RepLB K F' S' H' vs ds → Q ds S' → Qs vs H'
end
section
variable (X : Cx)
def DE (e : Expr) (T : TE Hp) : Prop := PE X e (lift X.K T)
def DB (e : Expr) (T : TE Hp) : Prop := PE X e (liftB X.K T)
def DF (e : Expr) (T : TE Hp) : Prop := PE X e (liftF X.K T)
def DT (e : Expr) (T : TT Hp) : Prop := PT X e (liftT X.K T)
def DW (e : Expr) (T : TT Hp) : Prop := PW X e (liftT X.K T)
def DA (es : List Expr) (T : TA Hp) : Prop := PA X es (liftA X.K es.length T)
def DAB (es : List Expr) (T : TA Hp) : Prop := PA X es (liftAB X.K T)
end
section
variable {X : Cx} {e a b c : Expr} {es : List Expr} {T Ta Tb Tc : TE Hp} {pos : Pos}
theorem DF.de (h : DF X e T) : DE X e T := pe_weak h fun σ H Qv ⟨B, F, S, env, Q, st, t, k⟩ => ⟨B, F, S, env, Q, st, t, fun d S' F' H' p o g hp fp sp hh r q => k d S' _ H' _ (g.frz hp fp sp hh) (r.rep fp) q⟩
theorem DE.db (h : DE X e T) : DB X e T := pe_weak h fun σ H Qv ⟨B, F, S, env, Q, st, t, k⟩ => ⟨B, F, S, env, Q, st, t, fun d S' F' H' v g r q => k d S' F' H' v g (.inl r) q⟩
theorem DF.db (h : DF X e T) : DB X e T := h.de.db

theorem de_var {i : Nat} {x : Str} (hN : X.N[i]? = some x := by rfl) (hv : Vis X.env.scope x := by first | exact Or.inl rfl | exact Or.inr (Or.inl rfl) | exact Or.inr (Or.inr rfl)) (hd : (x == ("__debug__" : PySem.Str)) = false := by decide)
    (hcd : (x == ("__classdict__" : PySem.Str)) = false := by decide) : DE X (.Name x pos) (eVar i) := pe_weak (pe_var hN hv hd hcd) fun σ H Qv ⟨B, F, S, env, Q, st, t, k⟩ => by
  unfold eVar at t
  split at t
  · rename_i d e
    obtain ⟨v, h1, h2⟩ := st.val e
    exact ⟨v, h1, k d S F H v (Go.refl st.ok) h2 t⟩
  · exact t.elim
theorem db_var {i : Nat} {x : Str} (hN : X.N[i]? = some x := by rfl) (hv : Vis X.env.scope x := by first | exact Or.inl rfl | exact Or.inr (Or.inl rfl) | exact Or.inr (Or.inr rfl)) (hd : (x == ("__debug__" : PySem.Str)) = false := by decide)
    (hcd : (x == ("__classdict__" : PySem.Str)) = false := by decide) : DB X (.Name x pos) (eBor i) := pe_weak (pe_var hN hv hd hcd) fun σ H Qv ⟨B, F, S, env, Q, st, t, k⟩ => by
  unfold eBor at t
  split at t
  · rename_i d e
    obtain ⟨v, h1, h2⟩ := st.val e
    exact ⟨v, h1, k d S F H v (Go.refl st.ok) (.inl h2) t⟩
  · rename_i d e
    obtain ⟨a, o, h1, _, h2, h3, h4, h5⟩ := st.own e
    exact ⟨_, h1, k d S F H _ (Go.refl st.ok) (.inr ⟨a, o, rfl, h3, h4, h5⟩) t⟩
  · exact t.elim
/-- a constant -/
theorem de_c {v : V} {d : D} (h : PE X e (tC v)) (r : ∀ F, Rep X.K F v d) : DE X e (eC d) := pe_weak h fun σ H Qv ⟨B, F, S, env, Q, st, t, k⟩ => k d S F H v (Go.refl st.ok) (r F) t
theorem de_int {i j} : DE X (.Constant (.int i) j pos) (eC (.int i)) := de_c pe_int fun _ => .int i
theorem de_bl {b j} : DE X (.Constant (.bool b) j pos) (eC (.bl b)) := de_c pe_bl fun _ => .bl b
theorem de_non {j} : DE X (.Constant .none j pos) (eC .non) := de_c pe_non fun _ => .non
theorem de_str {x : PySem.Str} {j} : DE X (.Constant (.str x) j pos) (eC (.str x)) := de_c pe_str fun _ => .str x
/-- a module's constant int -/
theorem de_glI {x : PySem.Str} {i : Int} {tk : Tok} (hm : X.mg x = some (.int i tk)) (hg : Gl X x := by rfl) (hd : (x == ("__debug__" : PySem.Str)) = false := by decide) : DE X (.Name x pos) (eC (.int i)) :=
  de_c (pe_glob hg hm (show RelV (.int i) (.int i tk) from ⟨_, rfl⟩) hd) fun _ => .int i

/-! ### operators by data -/
/-- what an operation on data asks of values -/
def rOf (K : PySem.W.Frag) (f : Op2) : R2 := fun x y H Qv => ∃ F S dx dy k, HOK F S H ∧ RepB K F S H x dx ∧ RepB K F S H y dy ∧ f dx dy k ∧ ∀ d F' H' v, Go F S H F' S H' → Rep K F' v d → k d → Qv v H'
def rOfF (K : PySem.W.Frag) (f : Op2) : R2 := fun x y H Qv => ∃ F S dx dy k, HOK F S H ∧ RepB K F S H x dx ∧ RepB K F S H y dy ∧ f dx dy k ∧ ∀ d F' H' p o, Go F S H F' S H' → H p = none → F' p = none → S p = none → H' p = some o → OwnR K F' o d → k d → Qv (.ref p) H'
theorem op2 {f : Op2} {σ : L2.St} {H : Hp} {Qv : VK} (h : lift X.K (eBin f Ta Tb) σ H Qv) : tOp (rOf X.K f) (liftB X.K Ta) (liftB X.K Tb) σ H Qv := by
  obtain ⟨B, F, S, env, Q, st, t, k⟩ := h
  refine ⟨B, F, S, env, fun x s1 => Tb env s1 fun y s2 => f x y fun z => Q z s2, st, t, fun dx S1 F1 H1 x g1 r1 q1 => ?_⟩
  refine ⟨B, F1, S1, env, fun y s2 => f dx y fun z => Q z s2, st.go g1, q1, fun dy S2 F2 H2 y g2 r2 q2 => ?_⟩
  exact ⟨F2, S2, dx, dy, fun z => Q z S2, g2.ok, r1.go g2, r2, q2, fun d F3 H3 v g3 r3 q3 => k d S2 F3 H3 v ((g1.trans g2).trans g3) r3 q3⟩
theorem op2F {f : Op2} {σ : L2.St} {H : Hp} {Qv : VK} (h : liftF X.K (eBin f Ta Tb) σ H Qv) : tOp (rOfF X.K f) (liftB X.K Ta) (liftB X.K Tb) σ H Qv := by
  obtain ⟨B, F, S, env, Q, st, t, k⟩ := h
  refine ⟨B, F, S, env, fun x s1 => Tb env s1 fun y s2 => f x y fun z => Q z s2, st, t, fun dx S1 F1 H1 x g1 r1 q1 => ?_⟩
  refine ⟨B, F1, S1, env, fun y s2 => f dx y fun z => Q z s2, st.go g1, q1, fun dy S2 F2 H2 y g2 r2 q2 => ?_⟩
  refine ⟨F2, S2, dx, dy, fun z => Q z S2, g2.ok, r1.go g2, r2, q2, fun d F3 H3 p o g3 hp fp sp hh r3 q3 => k d S2 F3 H3 p o ((g1.trans g2).trans g3) ?_ fp sp hh r3 q3⟩
  cases z : H p with
  | none => rfl
  | some u => exact absurd hp ((g1.trans g2).dom p (by rw [z]; exact fun z => nomatch z))
theorem de_bin {op : Operator} {f : Op2} (ho : OpR X (binaryOp op) (rOf X.K f)) (ha : DB X a Ta) (hb : DB X b Tb) : DE X (.BinOp a op b pos) (eBin f Ta Tb) := pe_weak (pe_op ho ha hb) fun _ _ _ h => op2 h
theorem df_bin {op : Operator} {f : Op2} (ho : OpR X (binaryOp op) (rOfF X.K f)) (ha : DB X a Ta) (hb : DB X b Tb) : DF X (.BinOp a op b pos) (eBin f Ta Tb) := pe_weak (pe_op ho ha hb) fun _ _ _ h => op2F h
theorem de_cmp {op : CmpOp} {f : Op2} (ho : OpR X (compareOp op) (rOf X.K f)) (ha : DB X a Ta) (hb : DB X b Tb) (hm : behindInMarks op b = false := by first | exact nomark _ | rfl) : DE X (.Compare a [op] [b] pos) (eBin f Ta Tb) := pe_weak (pe_cmpR ho ha hb hm) fun _ _ _ h => op2 h
def uOf (K : PySem.W.Frag) (f : Op1) : V → Hp → VK → Prop := fun x H Qv => ∃ F S dx k, HOK F S H ∧ RepB K F S H x dx ∧ f dx k ∧ ∀ d F' H' v, Go F S H F' S H' → Rep K F' v d → k d → Qv v H'
theorem de_un {op : UnaryOp} {f : Op1} (ho : UnR X (unaryOp op) (uOf X.K f)) (ha : DB X a Ta) : DE X (.UnaryOp op a pos) (eUn f Ta) := pe_weak (pe_un ho ha) fun σ H Qv ⟨B, F, S, env, Q, st, t, k⟩ =>
  ⟨B, F, S, env, fun x s1 => f x fun z => Q z s1, st, t, fun dx S1 F1 H1 x g1 r1 q1 => ⟨F1, S1, dx, fun z => Q z S1, g1.ok, r1, q1, fun d F3 H3 v g3 r3 q3 => k d S1 F3 H3 v (g1.trans g3) r3 q3⟩⟩

/-! ### arguments, displays -/
theorem da_nil : DA X [] aNil := pa_weak pa_nil fun σ H Qs ⟨B, F, S, env, Q, st, t, k⟩ => k [] S F H [] (Go.refl st.ok) .nil rfl t
theorem da_cons {r : TA Hp} (ha : DE X e Ta) (hr : DA X es r) (hs : starEach (e :: es) X.env = (false, eval e X.env) :: starEach es X.env := by rfl) : DA X (e :: es) (aCons Ta r) := pa_weak (pa_cons ha hr hs) fun σ H Qs ⟨B, F, S, env, Q, st, t, k⟩ =>
  ⟨B, F, S, env, fun x s1 => r env s1 fun xs s2 => Q (x :: xs) s2, st, t, fun d S1 F1 H1 v g1 r1 q1 => ⟨B, F1, S1, env, fun xs s2 => Q (d :: xs) s2, st.go g1, q1, fun ds S2 F2 H2 vs g2 r2 l q2 =>
    k (d :: ds) S2 F2 H2 (v :: vs) (g1.trans g2) (.cons (r1.mono g2.ff) r2) (by rw [List.length_cons, List.length_cons, l]) q2⟩⟩
theorem dab_nil : DAB X [] aNil := pa_weak pa_nil fun σ H Qs ⟨B, F, S, env, Q, st, t, k⟩ => k [] S F H [] (Go.refl st.ok) .nil t
theorem dab_cons {r : TA Hp} (ha : DB X e Ta) (hr : DAB X es r) (hs : starEach (e :: es) X.env = (false, eval e X.env) :: starEach es X.env := by rfl) : DAB X (e :: es) (aCons Ta r) := pa_weak (pa_cons ha hr hs) fun σ H Qs ⟨B, F, S, env, Q, st, t, k⟩ =>
  ⟨B, F, S, env, fun x s1 => r env s1 fun xs s2 => Q (x :: xs) s2, st, t, fun d S1 F1 H1 v g1 r1 q1 => ⟨B, F1, S1, env, fun xs s2 => Q (d :: xs) s2, st.go g1, q1, fun ds S2 F2 H2 vs g2 r2 q2 =>
    k (d :: ds) S2 F2 H2 (v :: vs) (g1.trans g2) (.cons (r1.go g2) r2) q2⟩⟩
theorem de_tup {x1} {t : TA Hp} (h : DA X es t) : DE X (.Tuple es x1 pos) (eTup t) := pe_weak (pe_tup h) fun σ H Qv ⟨B, F, S, env, Q, st, t', k⟩ =>
  ⟨B, F, S, env, _, st, t', fun ds S1 F1 H1 vs g1 r1 l ⟨z, q1⟩ => ⟨by rw [r1.length]; exact z, fun p hp => k (.tup ds) S1 (upd F1 p (.tup vs)) _ _ (g1.trans (Go.new g1.ok hp _)) (.tup upd_same (r1.mono (Go.new g1.ok hp _).ff)) q1⟩⟩
theorem df_lst {t : TA Hp} (h : DA X es t) : DF X (.List es pos) (eLst t) := pe_weak (pe_lst h) fun σ H Qv ⟨B, F, S, env, Q, st, t', k⟩ =>
  ⟨B, F, S, env, _, st, t', fun ds S1 F1 H1 vs g1 r1 l ⟨z, q1⟩ => ⟨by rw [r1.length]; exact z, fun p hp => k (.lst ds) S1 F1 _ p _ (g1.trans (Go.newH g1.ok hp _)) (by
    cases z : H p with
    | none => rfl
    | some u => exact absurd hp (g1.dom p (by rw [z]; exact fun z => nomatch z))) (g1.ok.fh.free hp) (g1.ok.sh.free hp) upd_same (.lst r1) q1⟩⟩

/-! ### calls of built-in functions -/
def nOf (K : PySem.W.Frag) (f : OpN) : List V → Hp → VK → Prop := fun vs H Qv => ∃ F S ds k, HOK F S H ∧ RepLB K F S H vs ds ∧ f ds k ∧ ∀ d F' H' v, Go F S H F' S H' → Rep K F' v d → k d → Qv v H'
def nOfF (K : PySem.W.Frag) (f : OpN) : List V → Hp → VK → Prop := fun vs H Qv => ∃ F S ds k, HOK F S H ∧ RepLB K F S H vs ds ∧ f ds k ∧ ∀ d F' H' p o, Go F S H F' S H' → H p = none → F' p = none → S p = none → H' p = some o → OwnR K F' o d → k d → Qv (.ref p) H'
theorem fn1 {f : OpN} {r : TA Hp} {σ : L2.St} {H : Hp} {Qv : VK} (h : lift X.K (eFn f r) σ H Qv) : tCB (nOf X.K f) (liftAB X.K r) σ H Qv := by
  obtain ⟨B, F, S, env, Q, st, t, k⟩ := h
  exact ⟨B, F, S, env, fun xs s1 => f xs fun z => Q z s1, st, t, fun ds S1 F1 H1 vs g1 r1 q1 => ⟨F1, S1, ds, fun z => Q z S1, g1.ok, r1, q1, fun d F3 H3 v g3 r3 q3 => k d S1 F3 H3 v (g1.trans g3) r3 q3⟩⟩
theorem fn1F {f : OpN} {r : TA Hp} {σ : L2.St} {H : Hp} {Qv : VK} (h : liftF X.K (eFn f r) σ H Qv) : tCB (nOfF X.K f) (liftAB X.K r) σ H Qv := by
  obtain ⟨B, F, S, env, Q, st, t, k⟩ := h
  refine ⟨B, F, S, env, fun xs s1 => f xs fun z => Q z s1, st, t, fun ds S1 F1 H1 vs g1 r1 q1 => ⟨F1, S1, ds, fun z => Q z S1, g1.ok, r1, q1, fun d F3 H3 p o g3 hp fp sp hh r3 q3 => k d S1 F3 H3 p o (g1.trans g3) ?_ fp sp hh r3 q3⟩⟩
  cases z : H p with
  | none => rfl
  | some u => exact absurd hp (g1.dom p (by rw [z]; exact fun z => nomatch z))
section
variable {x : PySem.Str} {p : Pos} {id T' : String} {f : OpN} {r : TA Hp}
theorem de_fnB (hc : CallR X (.builtin id) (nOf X.K f)) (hm : X.mg x = none) (hv : bootBuiltins x = some (.builtin id)) (ha : DAB X (e :: es) r) (hg : Gl X x := by rfl) (hn : x ≠ "__name__" := by decide) (hdb : (x == ("__debug__" : PySem.Str)) = false := by decide)
    (he : starEach (e :: es) X.env = (false, eval e X.env) :: starEach es X.env := by rfl) (hpl : (backTo pos (starEach es X.env)).any (·.1) = false := by rfl) : DE X (.Call (.Name x p) (e :: es) [] pos) (eFn f r) :=
  pe_weak (pe_callB hc hg hm hv ha hn hdb he hpl) fun _ _ _ h => fn1 h
theorem df_fnB (hc : CallR X (.builtin id) (nOfF X.K f)) (hm : X.mg x = none) (hv : bootBuiltins x = some (.builtin id)) (ha : DAB X (e :: es) r) (hg : Gl X x := by rfl) (hn : x ≠ "__name__" := by decide) (hdb : (x == ("__debug__" : PySem.Str)) = false := by decide)
    (he : starEach (e :: es) X.env = (false, eval e X.env) :: starEach es X.env := by rfl) (hpl : (backTo pos (starEach es X.env)).any (·.1) = false := by rfl) : DF X (.Call (.Name x p) (e :: es) [] pos) (eFn f r) :=
  pe_weak (pe_callB hc hg hm hv ha hn hdb he hpl) fun _ _ _ h => fn1F h
theorem de_fnT (hc : CallR X (.type T') (nOf X.K f)) (hm : X.mg x = none) (hv : bootBuiltins x = some (.type T')) (ha : DAB X (e :: es) r) (hg : Gl X x := by rfl) (hn : x ≠ "__name__" := by decide) (hdb : (x == ("__debug__" : PySem.Str)) = false := by decide)
    (he : starEach (e :: es) X.env = (false, eval e X.env) :: starEach es X.env := by rfl) (hpl : (backTo pos (starEach es X.env)).any (·.1) = false := by rfl) : DE X (.Call (.Name x p) (e :: es) [] pos) (eFn f r) :=
  pe_weak (pe_callTy hc hg hm hv ha hn hdb he hpl) fun _ _ _ h => fn1 h
theorem df_fnT (hc : CallR X (.type T') (nOfF X.K f)) (hm : X.mg x = none) (hv : bootBuiltins x = some (.type T')) (ha : DAB X (e :: es) r) (hg : Gl X x := by rfl) (hn : x ≠ "__name__" := by decide) (hdb : (x == ("__debug__" : PySem.Str)) = false := by decide)
    (he : starEach (e :: es) X.env = (false, eval e X.env) :: starEach es X.env := by rfl) (hpl : (backTo pos (starEach es X.env)).any (·.1) = false := by rfl) : DF X (.Call (.Name x p) (e :: es) [] pos) (eFn f r) :=
  pe_weak (pe_callTy hc hg hm hv ha hn hdb he hpl) fun _ _ _ h => fn1F h
/-- a module's name for a built-in function (gcd) -/
theorem de_fnM (hc : CallR X (.builtin id) (nOf X.K f)) (hm : X.mg x = some (.builtin id)) (ha : DAB X (e :: es) r) (hg : Gl X x := by rfl) (hdb : (x == ("__debug__" : PySem.Str)) = false := by decide)
    (he : starEach (e :: es) X.env = (false, eval e X.env) :: starEach es X.env := by rfl) (hpl : (backTo pos (starEach es X.env)).any (·.1) = false := by rfl) : DE X (.Call (.Name x p) (e :: es) [] pos) (eFn f r) :=
  pe_weak (pe_callBfun hc hg hm ha hdb he hpl) fun _ _ _ h => fn1 h
end

/-! ### calls of defs -/
/-- a def's promise by data -/
def spOf (K : PySem.W.Frag) (n : Nat) (f : FS Hp) : Sp := fun vs H Q E => vs.length = n ∧ ∃ F S ds k ex, HOK F S H ∧ RepL K F vs ds ∧ f ds S k ex ∧ (∀ d S' F' H' v, Go F S H F' S' H' → Rep K F' v d → k d S' → Q v H')
theorem spOf_len {K : PySem.W.Frag} {n : Nat} {f : FS Hp} : ∀ vs H Q E, spOf K n f vs H Q E → vs.length = n := fun _ _ _ _ h => h.1
section
variable {CX : CXT} {lv : Nat} {g : Addr} {fd : FuncData} {ps : List PySem.Str} {f : FS Hp} {ex : D → Hp → Prop} {E : XK} {x : PySem.Str} {p : Pos} {r : TA Hp}
theorem de_call (G : FnOk X.prog X.w X.K X.mg X.base CX lv g fd ps (spOf X.K ps.length f)) (hr : Room lv X.A) (hm : X.mg x = some (.ref g)) (hk : PySem.W.keepIn X.K (.ref g) = true) (hb : Binds X.K fd ps []) (hx : Passes CX X E)
    (ha : DA X (e :: es) r) (hl : (e :: es).length = ps.length := by rfl) (hg : Gl X x := by rfl) (hdb : (x == ("__debug__" : PySem.Str)) = false := by decide) (he : starEach (e :: es) X.env = (false, eval e X.env) :: starEach es X.env := by rfl) (hpl : (backTo pos (starEach es X.env)).any (·.1) = false := by rfl) :
    DE X (.Call (.Name x p) (e :: es) [] pos) (eCall f ex r) := pe_weak (pe_call G hr hg hm hk hb .nil hx ha hdb he hpl) fun σ H Qv ⟨B, F, S, env, Q, st, t, k⟩ =>
  ⟨B, F, S, env, fun xs s1 => f xs s1 Q ex, st, t, fun ds S1 F1 H1 vs g1 r1 l q1 => by
    show spOf X.K ps.length f (vs ++ []) H1 Qv E
    rw [List.append_nil]
    exact ⟨by rw [r1.length, l]; exact hl, F1, S1, ds, Q, ex, g1.ok, r1, q1, fun d S' F' H' v g2 r2 q2 => k d S' F' H' v (g1.trans g2) r2 q2⟩⟩
end

/-! ### tests -/
theorem rep_truth {K : PySem.W.Frag} {F S H : Hp} {x : V} {d : D} {k : Bool → Prop} (ok : HOK F S H) (r : RepB K F S H x d) (h : truth d k) : ∃ b, TruV K x H b ∧ k b := by
  cases d with
  | non => cases r.non; exact ⟨_, rfl, h⟩
  | bl b => cases r.bl; exact ⟨_, rfl, h⟩
  | int i => cases r.int; exact ⟨_, rfl, h⟩
  | str x => cases r.str; exact ⟨_, ⟨h.1, rfl⟩, h.2⟩
  | ty n => exact h.elim
  | obj a => exact h.elim
  | tup xs =>
    obtain ⟨a, vs, rfl, q, rl⟩ := r.tup ok
    refine ⟨!vs.isEmpty, .inr (.inl ⟨vs, q, rfl⟩), ?_⟩
    have e : vs.isEmpty = xs.isEmpty := by cases rl <;> rfl
    rw [e]; exact h
  | lst xs =>
    obtain ⟨a, vs, rfl, q, rl⟩ := r.list ok
    refine ⟨!vs.isEmpty, .inl ⟨vs, .of q, rfl⟩, ?_⟩
    have e : vs.isEmpty = xs.isEmpty := by cases rl <;> rfl
    rw [e]; exact h
  | dK kvs =>
    rcases r with r | ⟨a, o, rfl, hs, hh, r⟩
    · cases r with
      | dK h1 h2 h3 h4 =>
        subst h2
        refine ⟨_, .inr (.inr ⟨_, ok.fh _ _ h1, rfl⟩), ?_⟩
        rename_i ks vs ds
        have e : (ks.zip vs).isEmpty = (ks.zip ds).isEmpty := by
          cases ks with
          | nil => rfl
          | cons k ks => cases h3 with
            | nil => simp at h4
            | cons _ _ => rfl
        rw [e]; exact h
    · cases r with
      | dK h3 h4 =>
        refine ⟨_, .inr (.inr ⟨_, hh, rfl⟩), ?_⟩
        rename_i ks vs ds
        have e : (ks.zip vs).isEmpty = (ks.zip ds).isEmpty := by
          cases ks with
          | nil => rfl
          | cons k ks => cases h3 with
            | nil => simp at h4
            | cons _ _ => rfl
        rw [e]; exact h
  | dT kvs => exact h.elim
  | scr xs => exact h.elim
/-- any expression as a test, by its truth -/
theorem dt_truth (ha : DB X a Ta) (he : ∀ whole, isTrue a X.env whole = (do let v ← whole; standAt a.pos; holding [v] (truthy v)) := by intro _; rfl) : DT X a (tOf Ta) := pt_weak (pt_truth ha he) fun σ H Qb ⟨B, F, S, env, Q, st, t, k⟩ =>
  ⟨B, F, S, env, _, st, t, fun d S1 F1 H1 v g1 r1 q1 => by
    obtain ⟨b, h1, h2⟩ := rep_truth g1.ok r1 q1
    exact ⟨b, h1, k b S1 F1 H1 g1 h2⟩⟩
/-- a comparison as a test -/
theorem dt_cmp {op : CmpOp} {f : Op2} (ho : OpR X (compareOp op) (rOf X.K f)) (ha : DB X a Ta) (hb : DB X b Tb) (hm : behindInMarks op b = false := by first | exact nomark _ | rfl) : DT X (.Compare a [op] [b] pos) (tCmp f Ta Tb) :=
  pt_weak (pt_cmpR ho ha hb hm) fun σ H Qb ⟨B, F, S, env, Q, st, t, k⟩ => op2 (Ta := Ta) (Tb := Tb) ⟨B, F, S, env, fun z s2 => match z with
    | .bl c => Q c s2
    | _ => False, st, t, fun d S1 F1 H1 v g1 r1 q1 => by
    cases d with
    | bl c => cases r1; exact ⟨c, rfl, k c S1 F1 H1 g1 q1⟩
    | _ => exact q1.elim⟩
theorem dt_not {t : TT Hp} (h : DT X a t) : DT X (.UnaryOp .Not a pos) (tNot t) := pt_weak (pt_not h) fun σ H Qb ⟨B, F, S, env, Q, st, t', k⟩ => ⟨B, F, S, env, _, st, t', fun b S1 F1 H1 g1 q1 => k _ S1 F1 H1 g1 q1⟩
theorem dw_and1 {t : TT Hp} (h : DT X a t) : DW X (.BoolOp .And [a] pos) t := pw_and1 h
theorem dw_or1 {t : TT Hp} (h : DT X a t) : DW X (.BoolOp .Or [a] pos) t := pw_or1 h
theorem dw_and {t u : TT Hp} {rest : List Expr} (h : DT X a t) (h' : DW X (.BoolOp .And (b :: rest) pos) u) : DW X (.BoolOp .And (a :: b :: rest) pos) (tAnd t u) := pw_weak (pw_and h h') fun σ H Qb ⟨B, F, S, env, Q, st, t', k⟩ =>
  ⟨B, F, S, env, _, st, t', fun c S1 F1 H1 g1 q1 => by
    cases c with
    | true => rw [if_pos rfl]; rw [if_pos rfl] at q1; exact ⟨B, F1, S1, env, Q, st.go g1, q1, fun b S2 F2 H2 g2 q2 => k b S2 F2 H2 (g1.trans g2) q2⟩
    | false => rw [if_neg Bool.false_ne_true]; rw [if_neg Bool.false_ne_true] at q1; exact k _ S1 F1 H1 g1 q1⟩
theorem dw_or {t u : TT Hp} {rest : List Expr} (h : DT X a t) (h' : DW X (.BoolOp .Or (b :: rest) pos) u) : DW X (.BoolOp .Or (a :: b :: rest) pos) (tOr t u) := pw_weak (pw_or h h') fun σ H Qb ⟨B, F, S, env, Q, st, t', k⟩ =>
  ⟨B, F, S, env, _, st, t', fun c S1 F1 H1 g1 q1 => by
    cases c with
    | true => rw [if_pos rfl]; rw [if_pos rfl] at q1; exact k _ S1 F1 H1 g1 q1
    | false => rw [if_neg Bool.false_ne_true]; rw [if_neg Bool.false_ne_true] at q1; exact ⟨B, F1, S1, env, Q, st.go g1, q1, fun b S2 F2 H2 g2 q2 => k b S2 F2 H2 (g1.trans g2) q2⟩⟩
theorem DW.dt {t : TT Hp} (h : DW X e t) : DT X e t := PW.pt h
theorem de_if {t : TT Hp} (hc : DT X c t) (ha : DE X a Ta) (hb : DE X b Tb) : DE X (.IfExp c a b pos) (eIf t Ta Tb) := pe_weak (pe_ifExp hc ha hb) fun σ H Qv ⟨B, F, S, env, Q, st, t', k⟩ =>
  ⟨B, F, S, env, _, st, t', fun c S1 F1 H1 g1 q1 => by
    cases c with
    | true => rw [if_pos rfl]; rw [if_pos rfl] at q1; exact ⟨B, F1, S1, env, Q, st.go g1, q1, fun d S2 F2 H2 v g2 r2 q2 => k d S2 F2 H2 v (g1.trans g2) r2 q2⟩
    | false => rw [if_neg Bool.false_ne_true]; rw [if_neg Bool.false_ne_true] at q1; exact ⟨B, F1, S1, env, Q, st.go g1, q1, fun d S2 F2 H2 v g2 r2 q2 => k d S2 F2 H2 v (g1.trans g2) r2 q2⟩⟩
end
end DL

end
section
set_option linter.all false
set_option maxRecDepth 100000
set_option autoImplicit false
/-! The data layer, sound part 3: statements, loops, comprehensions, defs. -/
namespace DL
open PySem L2

/-- what is wanted behind a statement, by data: F0, S0, B as at the def's entry -/
structure EndR (K : PySem.W.Frag) (KD : KE Hp) (D : L2.Ends) (F0 S0 B F : Hp) : Prop where
  nx : ∀ F' S' H' env σ, Same F F' → Go F0 S0 B F' S' H' → StR K B F' S' env σ H' → KD.nx env S' → D.nx σ H'
  rt : ∀ F' S' H' d v, Same F F' → Go F0 S0 B F' S' H' → Rep K F' v d → KD.rt d S' → D.rt v H'
  bk : ∀ F' S' H' env σ, Same F F' → Go F0 S0 B F' S' H' → StR K B F' S' env σ H' → KD.bk env S' → D.bk σ H'
  ct : ∀ F' S' H' env σ, Same F F' → Go F0 S0 B F' S' H' → StR K B F' S' env σ H' → KD.ct env S' → D.ct σ H'
theorem EndR.at {K : PySem.W.Frag} {KD : KE Hp} {D : L2.Ends} {F0 S0 B F F1 : Hp} (k : EndR K KD D F0 S0 B F) (e : Same F F1) : EndR K KD D F0 S0 B F1 :=
  ⟨fun F' S' H' env σ s g st q => k.nx F' S' H' env σ (e.trans s) g st q, fun F' S' H' d v s g r q => k.rt F' S' H' d v (e.trans s) g r q, fun F' S' H' env σ s g st q => k.bk F' S' H' env σ (e.trans s) g st q, fun F' S' H' env σ s g st q => k.ct F' S' H' env σ (e.trans s) g st q⟩
def liftS (K : PySem.W.Frag) (T : TS Hp) : L2.TS := fun D σ H => ∃ F0 S0 B F S env KD, Go F0 S0 B F S H ∧ StR K B F S env σ H ∧ T KD env S ∧ EndR K KD D F0 S0 B F
def DS (X : Cx) (st : Stmt) (T : TS Hp) : Prop := PS X st (liftS X.K T)
def DSs (X : Cx) (st : List Stmt) (T : TS Hp) : Prop := PSs X st (liftS X.K T)

theorem none_of_dom {F S H F' S' H' : Hp} (g : Go F S H F' S' H') {p : Addr} (hp : H' p = none) : H p = none := by
  cases z : H p with
  | none => rfl
  | some u => exact absurd hp (g.dom p (by rw [z]; exact fun z => nomatch z))

section
variable {X : Cx} {e a b c : Expr} {st : Stmt} {rest : List Stmt} {es : List Expr} {T Ta Tb Tc : TE Hp} {U V' : TS Hp} {pos : Pos}
theorem dss_nil : DSs X [] sNil := pss_weak pss_nil fun D σ H ⟨F0, S0, B, F, S, env, KD, g, st, t, k⟩ => k.nx F S H env σ (Same.refl F) g st t
theorem dss_cons (h : DS X st U) (h' : DSs X rest V') : DSs X (st :: rest) (sSeq U V') := pss_weak (pss_cons h h') fun D σ H ⟨F0, S0, B, F, S, env, KD, g, st, t, k⟩ =>
  ⟨F0, S0, B, F, S, env, { KD with nx := V' KD }, g, st, t, ⟨fun F' S' H' env' σ' sm g' st' t' => ⟨F0, S0, B, F', S', env', KD, g', st', t', k.at sm⟩, k.rt, k.bk, k.ct⟩⟩
theorem ds_pass : DS X (.Pass pos) sNil := ps_weak ps_pass fun D σ H ⟨F0, S0, B, F, S, env, KD, g, st, t, k⟩ => k.nx F S H env σ (Same.refl F) g st t
theorem ds_brk : DS X (.Break pos) sBrk := ps_weak ps_break fun D σ H ⟨F0, S0, B, F, S, env, KD, g, st, t, k⟩ => k.bk F S H env σ (Same.refl F) g st t
theorem ds_cnt : DS X (.Continue pos) sCnt := ps_weak ps_continue fun D σ H ⟨F0, S0, B, F, S, env, KD, g, st, t, k⟩ => k.ct F S H env σ (Same.refl F) g st t
theorem ds_never : DS X st sNever := ps_weak ps_never fun D σ H ⟨F0, S0, B, F, S, env, KD, g, st, t, k⟩ => t
/-- the object of a slot is a value from here on -/
theorem StR.frz {K : PySem.W.Frag} {F0 S0 B F S H : Hp} {env : Env} {σ : L2.St} (g : Go F0 S0 B F S H) (h : StR K B F S env σ H) {i : Nat} {d : D} (e : env[i]? = some (.own d)) :
    ∃ F', Same F F' ∧ Go F0 S0 B F' S H ∧ StR K B F' S (env.set i (.val d)) σ H := by
  obtain ⟨a, o, h1, h2, h3, h4, h5, h6⟩ := h.own e
  have sm : Same F (upd F a o) := fun x u hx => by rw [upd_ne (ne_of_none hx h3)]; exact hx
  have ok' : HOK (upd F a o) S H := ⟨fun x u hx => by
    by_cases q : x = a
    · subst q; rw [upd_same] at hx; cases hx; exact h5
    · rw [upd_ne q] at hx; exact h.ok.fh _ _ hx, h.ok.sh, fun x hx => by
    by_cases q : x = a
    · subst q; exact h4
    · rw [upd_ne q] at hx; exact h.ok.ap x hx⟩
  have hi : i < env.length := (List.getElem?_eq_some_iff.mp e).1
  refine ⟨upd F a o, sm, ⟨g.ff.trans sm, ok', g.keep, g.dom, fun x hx => ?_, g.ns⟩, ⟨ok', by simp [h.len], fun j e' o' q1 q2 => ?_, fun j k d1 d2 x hjk q1 q2 q3 q4 => ?_⟩⟩
  · by_cases q : x = a
    · subst q; exact .inr h2
    · rw [upd_ne q] at hx; exact g.nf x hx
  · by_cases ej : i = j
    · subst ej
      rw [List.getElem?_set_self hi] at q1
      rw [h1] at q2
      cases q1; cases q2
      exact .val (h6.rep h3)
    · rw [List.getElem?_set_ne ej] at q1
      cases h.sl j e' o' q1 q2 with
      | no => exact .no
      | val r => exact .val (r.mono sm)
      | own b f s' q r =>
        rename_i a' o1 d1
        have na : a' ≠ a := fun z => by
          subst z
          exact h.ap i j d d1 a' ej e q1 h1 q2
        exact .own b (by rw [upd_ne na]; exact f) s' q (r.mono sm)
  · have n1 : i ≠ j := fun z => by
      subst z
      rw [List.getElem?_set_self hi] at q1; cases q1
    have n2 : i ≠ k := fun z => by
      subst z
      rw [List.getElem?_set_self hi] at q2; cases q2
    rw [List.getElem?_set_ne n1] at q1
    rw [List.getElem?_set_ne n2] at q2
    exact h.ap j k d1 d2 x hjk q1 q2 q3 q4
theorem dss_frz (i : Nat) {sts : List Stmt} (h : DSs X sts U) : DSs X sts (sSeq (sFrz i) U) := pss_weak h fun D σ H ⟨F0, S0, B, F, S, env, KD, g, st, t, k⟩ => by
  unfold sSeq sFrz at t
  split at t
  · rename_i d e
    obtain ⟨F', sm, g', st'⟩ := st.frz g e
    exact ⟨F0, S0, B, F', S, _, KD, g', st', t, k.at sm⟩
  · exact t.elim
theorem ds_frz (i : Nat) (h : DS X st U) : DS X st (sSeq (sFrz i) U) := ps_weak h fun D σ H ⟨F0, S0, B, F, S, env, KD, g, st, t, k⟩ => by
  unfold sSeq sFrz at t
  split at t
  · rename_i d e
    obtain ⟨F', sm, g', st'⟩ := st.frz g e
    exact ⟨F0, S0, B, F', S, _, KD, g', st', t, k.at sm⟩
  · exact t.elim
/-- a slot's value is forgotten -/
theorem ds_set {i : Nat} {x : PySem.Str} {pos' : Pos} (he : DE X e T) (hN : X.N.Nodup) (hi : X.N[i]? = some x := by rfl) (hx : Loc X.env.scope x := by first | exact Or.inl rfl | exact Or.inr rfl) (hs : swapsWith e (some (.Name x pos')) pos.line X.env = pure false := by rfl) (hf : X.fn x = true ∨ X.env.scope.names.lookup x = some .local := by first | exact .inl rfl | exact .inr rfl | assumption) :
    DS X (.Assign [.Name x pos'] e pos) (sSet i T) := ps_weak (ps_set hN hi hx he hs hf) fun D σ H ⟨F0, S0, B, F, S, env, KD, g, st, t, k⟩ =>
  ⟨B, F, S, env, _, st, t, fun d S1 F1 H1 v g1 r1 q1 => k.nx _ _ _ _ _ g1.ff (g.trans g1) ((st.go g1).set i r1) q1⟩
theorem setOwn_go {K : PySem.W.Frag} {F0 S0 B F S H F1 S1 H1 : Hp} {env : Env} {σ : L2.St} {i : Nat} {p : Addr} {o : HO} {d : D} (g : Go F0 S0 B F S H) (st : StR K B F S env σ H) (g1 : Go F S H F1 S1 H1) (hp : H p = none) (fp : F1 p = none) (sp : S1 p = none) (hh : H1 p = some o) (r : OwnR K F1 o d) :
    StR K B F1 S1 (env.set i (.own d)) (σ.set i (some (.ref p))) H1 :=
  (st.go g1).setOwn i (none_of_dom g hp) fp sp hh r fun j d' q z => by
    obtain ⟨a, o', h1, h2, h3, h4, h5, h6⟩ := st.own q
    rw [h1] at z
    cases z
    rw [hp] at h5
    cases h5
theorem ds_own {i : Nat} {x : PySem.Str} {pos' : Pos} (he : DF X e T) (hN : X.N.Nodup) (hi : X.N[i]? = some x := by rfl) (hx : Loc X.env.scope x := by first | exact Or.inl rfl | exact Or.inr rfl) (hs : swapsWith e (some (.Name x pos')) pos.line X.env = pure false := by rfl) (hf : X.fn x = true ∨ X.env.scope.names.lookup x = some .local := by first | exact .inl rfl | exact .inr rfl | assumption) :
    DS X (.Assign [.Name x pos'] e pos) (sOwn i T) := ps_weak (ps_set hN hi hx he hs hf) fun D σ H ⟨F0, S0, B, F, S, env, KD, g, st, t, k⟩ =>
  ⟨B, F, S, env, _, st, t, fun d S1 F1 H1 p o g1 hp fp sp hh r1 q1 => k.nx _ _ _ _ _ g1.ff (g.trans g1) (setOwn_go g st g1 hp fp sp hh r1) q1⟩
theorem ds_ret (he : DE X e T) : DS X (.Return (some e) pos) (sRet T) := ps_weak (ps_ret he) fun D σ H ⟨F0, S0, B, F, S, env, KD, g, st, t, k⟩ =>
  ⟨B, F, S, env, _, st, t, fun d S1 F1 H1 v g1 r1 q1 => k.rt _ _ _ _ _ g1.ff (g.trans g1) r1 q1⟩
theorem ds_retN : DS X (.Return none pos) sRetN := ps_weak ps_retN fun D σ H ⟨F0, S0, B, F, S, env, KD, g, st, t, k⟩ => k.rt _ _ _ _ _ (Same.refl F) g .non t
theorem ds_expr (he : DE X e T) (hs : swapsWith e none pos.line X.env = pure false := by rfl) : DS X (.Expr e pos) (sDrop T) := ps_weak (ps_expr he hs) fun D σ H ⟨F0, S0, B, F, S, env, KD, g, st, t, k⟩ =>
  ⟨B, F, S, env, _, st, t, fun d S1 F1 H1 v g1 r1 q1 => k.nx _ _ _ _ _ g1.ff (g.trans g1) (st.go g1) q1⟩
theorem ds_if {t : TT Hp} {sa sb : List Stmt} (hc : DT X c t) (ha : DSs X sa U) (hb : DSs X sb V') : DS X (.If c sa sb pos) (sIf t U V') := ps_weak (ps_if hc ha hb) fun D σ H ⟨F0, S0, B, F, S, env, KD, g, st, t, k⟩ =>
  ⟨B, F, S, env, _, st, t, fun c S1 F1 H1 g1 q1 => by
    cases c with
    | true => rw [if_pos rfl]; rw [if_pos rfl] at q1; exact ⟨F0, S0, B, F1, S1, env, KD, g.trans g1, st.go g1, q1, k.at g1.ff⟩
    | false => rw [if_neg Bool.false_ne_true]; rw [if_neg Bool.false_ne_true] at q1; exact ⟨F0, S0, B, F1, S1, env, KD, g.trans g1, st.go g1, q1, k.at g1.ff⟩⟩
/-- x op= e -/
theorem ds_aug {i : Nat} {x : PySem.Str} {op : Operator} {f : Op2} {pos' : Pos} (ho : PIp X op (rOf X.K f)) (he : DB X e T) (hN : X.N.Nodup) (hi : X.N[i]? = some x := by rfl) (hx : Loc X.env.scope x := by first | exact Or.inl rfl | exact Or.inr rfl) (hf : X.fn x = true ∨ X.env.scope.names.lookup x = some .local := by first | exact .inl rfl | exact .inr rfl | assumption) :
    DS X (.AugAssign (.Name x pos') op e pos) (sAug i f T) := ps_weak (ps_aug hN hi hx he ho hf) fun D σ H ⟨F0, S0, B, F, S, env, KD, g, st, t, k⟩ => by
  unfold sAug at t
  split at t
  · rename_i d e
    obtain ⟨v, h1, h2⟩ := st.val e
    exact ⟨v, h1, B, F, S, env, _, st, t, fun y S1 F1 H1 u g1 r1 q1 => ⟨F1, S1, d, y, _, g1.ok, .inl (h2.mono g1.ff), r1, q1, fun z F2 H2 w g2 r2 q2 => k.nx _ _ _ _ _ (g1.trans g2).ff (g.trans (g1.trans g2)) ((st.go (g1.trans g2)).set i r2) q2⟩⟩
  · exact t.elim

/-! ### targets -/
mutual
def gP (K : PySem.W.Frag) : Pat → L2.TG
  | .nm i => gName i
  | .tp ps => gTup K ps.length (gPs K ps)
def gPs (K : PySem.W.Frag) : List Pat → L2.TGs
  | [] => gNil
  | p :: ps => gCons (gP K p) (gPs K ps)
end
mutual
def Pat.names : Pat → List Nat
  | .nm i => [i]
  | .tp ps => Pat.namesL ps
def Pat.namesL : List Pat → List Nat
  | [] => []
  | p :: ps => p.names ++ Pat.namesL ps
end
theorem wipe_set {σ : L2.St} {i : Nat} {x : Option V} : ∀ {vs : List Nat}, i ∈ vs → wipe (σ.set i x) vs = wipe σ vs
  | v :: vs, h => by
    by_cases e : i ∈ vs
    · unfold wipe; rw [wipe_set e]
    · have e' : i = v := by
        rcases List.mem_cons.mp h with z | z
        · exact z
        · exact absurd z e
      subst e'
      have q : ∀ us : List Nat, i ∉ us → wipe (σ.set i x) us = (wipe σ us).set i x := by
        intro us
        induction us with
        | nil => intro _; rfl
        | cons u us ih =>
          intro hu
          have n1 : i ≠ u := fun z => hu (by rw [z]; exact List.mem_cons_self)
          have n2 : i ∉ us := fun z => hu (List.mem_cons_of_mem _ z)
          unfold wipe
          rw [ih n2, List.set_comm _ _ n1]
      unfold wipe
      rw [q vs e, List.set_set]
theorem puts_len : ∀ (ps : List Pat) {ds : List D} {env env' : Env}, Pat.puts ps ds env = some env' → ds.length = ps.length
  | [], [], _, _, _ => rfl
  | [], _ :: _, _, _, e => by unfold Pat.puts at e; cases e
  | _ :: _, [], _, _, e => by unfold Pat.puts at e; cases e
  | p :: ps, d :: ds, env, env', e => by
    unfold Pat.puts at e
    split at e
    · rw [List.length_cons, List.length_cons, puts_len ps e]
    · cases e
mutual
theorem put_ok {K : PySem.W.Frag} {B F S H : Hp} : ∀ (p : Pat) {d : D} {env env' : Env} {v : V} {σ : L2.St} {Q : L2.St → Hp → Prop}, p.put d env = some env' → StR K B F S env σ H → Rep K F v d →
    (∀ σ', StR K B F S env' σ' H → (∀ vs, (∀ i ∈ p.names, i ∈ vs) → wipe σ' vs = wipe σ vs) → Q σ' H) → gP K p v σ H Q
  | .nm i, d, env, env', v, σ, Q, e, st, r, k => by
    unfold Pat.put at e
    cases e
    exact k _ (st.set i r) fun vs h => wipe_set (h i (by unfold Pat.names; exact List.mem_singleton.mpr rfl))
  | .tp ps, d, env, env', v, σ, Q, e, st, r, k => by
    unfold Pat.put at e
    cases d with
    | tup ds =>
      cases r with
      | tup q rl =>
        rename_i a us
        obtain ⟨hl, h⟩ := puts_ok ps e st rl k
        exact ⟨a, us, rfl, .of (st.ok.fh _ _ q), hl, h⟩
    | _ => cases e
theorem puts_ok {K : PySem.W.Frag} {B F S H : Hp} : ∀ (ps : List Pat) {ds : List D} {env env' : Env} {us : List V} {σ : L2.St} {Q : L2.St → Hp → Prop}, Pat.puts ps ds env = some env' → StR K B F S env σ H → RepL K F us ds →
    (∀ σ', StR K B F S env' σ' H → (∀ vs, (∀ i ∈ Pat.namesL ps, i ∈ vs) → wipe σ' vs = wipe σ vs) → Q σ' H) → us.length = ps.length ∧ gPs K ps us σ H Q
  | [], ds, env, env', us, σ, Q, e, st, r, k => by
    cases ds with
    | nil =>
      cases r
      unfold Pat.puts at e
      cases e
      exact ⟨rfl, rfl, k σ st fun _ _ => rfl⟩
    | cons d ds => unfold Pat.puts at e; cases e
  | p :: ps, ds, env, env', us, σ, Q, e, st, r, k => by
    cases ds with
    | nil => unfold Pat.puts at e; cases e
    | cons d ds =>
      cases r with
      | cons r1 r2 =>
        rename_i v us
        unfold Pat.puts at e
        split at e
        · rename_i env1 e1
          have l : us.length = ps.length := by rw [r2.length, puts_len ps e]
          refine ⟨by rw [List.length_cons, List.length_cons, l], v, us, rfl, put_ok p e1 st r1 fun σ1 st1 w1 => (puts_ok ps e st1 r2 fun σ2 st2 w2 => k σ2 st2 fun vs h => ?_).2⟩
          rw [w2 vs fun i hi => h i (by unfold Pat.namesL; exact List.mem_append_right _ hi), w1 vs fun i hi => h i (by unfold Pat.namesL; exact List.mem_append_left _ hi)]
        · cases e
end

/-! ### loops -/
/-- what a walk gives, by data: F as at its start -/
structure ItOk (K : PySem.W.Frag) (J : It) (F : Hp) (ds : List D) : Prop where
  goes : ∀ i F' S' H', i < ds.length → Same F F' → HOK F' S' H' → J.go i H'
  stops : ∀ F' S' H', Same F F' → HOK F' S' H' → J.stop ds.length H'
  yields : ∀ i F' S' H' x H'', i < ds.length → Same F F' → HOK F' S' H' → J.yld i H' x H'' → ∃ F'' d, ds[i]? = some d ∧ Go F' S' H' F'' S' H'' ∧ Rep K F'' x d
def liftI (K : PySem.W.Frag) (T : TI Hp) : L2.TI := fun σ H R => ∃ B F S env Q, StR K B F S env σ H ∧ T env S Q ∧ ∀ ds S' F' H' J, Go F S H F' S' H' → ItOk K J F' ds → Q ds S' → R J H'
def DI (X : Cx) (tg it : Expr) (T : TI Hp) : Prop := PI X tg it (liftI X.K T)

theorem drop_get {α : Type} {l : List α} {i : Nat} (h : i < l.length) : l.drop i = l[i] :: l.drop (i + 1) := by simp

section
variable {tg it : Expr} {I : TI Hp} {p : Pat} {body : List Stmt}
theorem ds_for (hi : DI X tg it I) (hg : PG X tg (gP X.K p)) (hb : DSs X body U) (hp : PassesOwn (model X.prog X.w) X.A X.env X.xe := by exact PassesOwn.never) (hc : X.calm = true := by rfl) (hs : ∀ x, foldedSetIterable it X.env x = pure x := by intro _; rfl) :
    DS X (.For tg it body [] pos) (sFor I p U) := ps_weak (ps_for hp hc hi hg hb hs) fun D σ H ⟨F0, S0, B, F, S, env, KD, g, st, t, k⟩ => by
  refine ⟨B, F, S, env, _, st, t, fun ds S1 F1 H1 J g1 ok q1 => ?_⟩
  refine ⟨fun i m σ' H' => m = ds.length - i ∧ i ≤ ds.length ∧ ∃ F' S' env', Go F0 S0 B F' S' H' ∧ Same F1 F' ∧ StR X.K B F' S' env' σ' H' ∧ forD p U KD (ds.drop i) env' S', ⟨ds.length, by simp, Nat.zero_le _, F1, S1, env, g.trans g1, Same.refl _, st.go g1, by simpa using q1⟩, ?_⟩
  rintro i m σ' H' ⟨rfl, hi', F', S', env', g', sm, st', t'⟩
  by_cases hlt : i < ds.length
  · refine .inr ⟨ok.goes i F' S' H' hlt sm st'.ok, fun σ2 H2 => ∃ F2 S2 env2, Go F0 S0 B F2 S2 H2 ∧ Same F1 F2 ∧ StR X.K B F2 S2 env2 σ2 H2 ∧ forD p U KD (ds.drop (i + 1)) env2 S2, ?_, ?_⟩
    · rintro σ2 H2 ⟨F2, S2, env2, g2, sm2, st2, t2⟩
      exact ⟨ds.length - (i + 1), by omega, rfl, hlt, F2, S2, env2, g2, sm2, st2, t2⟩
    · intro x H'' y
      obtain ⟨F2, d, e, g2, r⟩ := ok.yields i F' S' H' x H'' hlt sm st'.ok y
      have hd : ds.drop i = d :: ds.drop (i + 1) := by
        rw [drop_get hlt]
        rw [List.getElem?_eq_getElem hlt] at e
        cases e
        rfl
      rw [hd] at t'
      unfold forD at t'
      split at t'
      · rename_i env2 e2
        refine put_ok p e2 (st'.go g2) r fun σ2 st2 _ => ?_
        have sm2 : Same F1 F2 := sm.trans g2.ff
        exact ⟨F0, S0, B, F2, S', env2, _, g'.trans g2, st2, t', ⟨fun F3 S3 H3 env3 σ3 s3 g3 st3 q3 => ⟨F3, S3, env3, g3, sm2.trans s3, st3, q3⟩, fun F3 S3 H3 d v s3 g3 r3 q3 => k.rt _ _ _ _ _ (g1.ff.trans (sm2.trans s3)) g3 r3 q3,
          fun F3 S3 H3 env3 σ3 s3 g3 st3 q3 => k.nx _ _ _ _ _ (g1.ff.trans (sm2.trans s3)) g3 st3 q3, fun F3 S3 H3 env3 σ3 s3 g3 st3 q3 => ⟨F3, S3, env3, g3, sm2.trans s3, st3, q3⟩⟩⟩
      · exact t'.elim
  · have e : i = ds.length := by omega
    subst e
    rw [List.drop_length] at t'
    exact .inl ⟨ok.stops F' S' H' sm st'.ok, k.nx _ _ _ _ _ (g1.ff.trans sm) g' st' t'⟩

theorem ds_while {t : TT Hp} (hc' : DT X c t) (hb : DSs X body U) (hp : PassesOwn (model X.prog X.w) X.A X.env X.xe := by exact PassesOwn.never) : DS X (.While c body [] pos) (sWhile t U) := ps_weak (ps_while hp hc' hb) fun D σ H ⟨F0, S0, B, F, S, env, KD, g, st, ⟨n, tn⟩, k⟩ => by
  refine ⟨fun m σ' H' => ∃ F' S' env', Go F0 S0 B F' S' H' ∧ Same F F' ∧ StR X.K B F' S' env' σ' H' ∧ whileD t U KD m env' S', ⟨n, F, S, env, g, Same.refl _, st, tn⟩, ?_⟩
  rintro m σ' H' ⟨F', S', env', g', sm, st', t'⟩
  cases m with
  | zero => exact t'.elim
  | succ m =>
    unfold whileD at t'
    refine ⟨B, F', S', env', _, st', t', fun c S1 F1 H1 g1 q1 => ?_⟩
    cases c with
    | true =>
      rw [if_pos rfl]
      rw [if_pos rfl] at q1
      refine ⟨fun σ2 H2 => ∃ F2 S2 env2, Go F0 S0 B F2 S2 H2 ∧ Same F F2 ∧ StR X.K B F2 S2 env2 σ2 H2 ∧ whileD t U KD m env2 S2, fun σ2 H2 h => ⟨m, Nat.lt_succ_self _, h⟩, ?_⟩
      have sm2 : Same F F1 := sm.trans g1.ff
      exact ⟨F0, S0, B, F1, S1, env', _, g'.trans g1, st'.go g1, q1, ⟨fun F3 S3 H3 env3 σ3 s3 g3 st3 q3 => ⟨F3, S3, env3, g3, sm2.trans s3, st3, q3⟩, fun F3 S3 H3 d v s3 g3 r3 q3 => k.rt _ _ _ _ _ (sm2.trans s3) g3 r3 q3,
        fun F3 S3 H3 env3 σ3 s3 g3 st3 q3 => k.nx _ _ _ _ _ (sm2.trans s3) g3 st3 q3, fun F3 S3 H3 env3 σ3 s3 g3 st3 q3 => ⟨F3, S3, env3, g3, sm2.trans s3, st3, q3⟩⟩⟩
    | false =>
      rw [if_neg Bool.false_ne_true]
      rw [if_neg Bool.false_ne_true] at q1
      exact k.nx _ _ _ _ _ (sm.trans g1.ff) (g'.trans g1) (st'.go g1) q1
end

/-! ### comprehensions -/
theorem StR.wipe {K : PySem.W.Frag} {B F S H : Hp} {env : Env} {σ : L2.St} (h : StR K B F S env σ H) : ∀ vs : List Nat, StR K B F S (wipeE env vs) (L2.wipe σ vs) H
  | [] => h
  | v :: vs => (StR.wipe h vs).wipe1 v
theorem wipe_get (σ : L2.St) : ∀ (vs : List Nat) (i : Nat), (L2.wipe σ vs)[i]? = if i ∈ vs then σ[i]?.map (fun _ => none) else σ[i]?
  | [], i => by simp [L2.wipe]
  | v :: vs, i => by
    unfold L2.wipe
    by_cases e : v = i
    · subst e
      rw [if_pos List.mem_cons_self]
      by_cases hi : v < σ.length
      · rw [List.getElem?_set_self (by rw [wipe_length]; exact hi), List.getElem?_eq_getElem hi]
        rfl
      · rw [List.getElem?_eq_none (by rw [List.length_set, wipe_length]; omega), List.getElem?_eq_none (by omega)]
        rfl
    · rw [List.getElem?_set_ne e, wipe_get σ vs i]
      have q : (i ∈ v :: vs) ↔ i ∈ vs := ⟨fun h => (List.mem_cons.mp h).resolve_left (Ne.symm e), List.mem_cons_of_mem _⟩
      by_cases h : i ∈ vs
      · rw [if_pos h, if_pos (q.mpr h)]
      · rw [if_neg h, if_neg fun z => h (q.mp z)]
theorem wipe_idem (σ : L2.St) (vs : List Nat) : L2.wipe (L2.wipe σ vs) vs = L2.wipe σ vs := by
  apply List.ext_getElem?
  intro i
  rw [wipe_get, wipe_get]
  by_cases h : i ∈ vs
  · rw [if_pos h, if_pos h, Option.map_map]; rfl
  · rw [if_neg h, if_neg h]
/-- an own object's list grows -/
theorem lc_ok {K : PySem.W.Frag} {I : TI Hp} {p : Pat} {t : TT Hp} {T : TE Hp} {vs : List Nat} {σ : L2.St} {H : Hp} {Qv : VK} (hv : ∀ i ∈ p.names, i ∈ vs) (h : liftF K (eLc I p t T vs) σ H Qv) : tLc (liftI K I) (gP K p) (liftT K t) (lift K T) vs σ H Qv := by
  obtain ⟨B, F, S, env, Q, st, tt, k⟩ := h
  refine ⟨B, F, S, env, _, st, tt, fun ds S1 F1 H1 J g1 ok q1 D hD => ?_⟩
  have st1 := st.go g1
  have hF1 : F1 D = none := g1.ok.fh.free hD
  have hS1 : S1 D = none := g1.ok.sh.free hD
  have hHD : H D = none := none_of_dom g1 hD
  refine ⟨fun i m H' => m = ds.length - i ∧ i ≤ ds.length ∧ ∃ F' S' accV acc, Go F S H F' S' H' ∧ Same F1 F' ∧ F' D = none ∧ S' D = none ∧ H' D = some (.lst accV) ∧ RepL K F' accV acc ∧ StR K B F' S' env σ H' ∧ lcD p t T (wipeE env vs) (fun acc s2 => Q (.lst acc) s2) (ds.drop i) acc S',
    ⟨ds.length, by simp, Nat.zero_le _, F1, S1, [], [], g1.trans (Go.newH g1.ok hD _), Same.refl _, hF1, hS1, upd_same, .nil, st1.go (Go.newH g1.ok hD _), by simpa using q1⟩, ?_⟩
  rintro i m H' ⟨rfl, hi', F', S', accV, acc, g', sm, fD, sD, hHD', rl, st', t'⟩
  by_cases hlt : i < ds.length
  · refine .inr ⟨ok.goes i F' S' H' hlt sm st'.ok, fun H2 => ∃ F2 S2 accV acc, Go F S H F2 S2 H2 ∧ Same F1 F2 ∧ F2 D = none ∧ S2 D = none ∧ H2 D = some (.lst accV) ∧ RepL K F2 accV acc ∧ StR K B F2 S2 env σ H2 ∧ lcD p t T (wipeE env vs) (fun acc s2 => Q (.lst acc) s2) (ds.drop (i + 1)) acc S2, ?_, ?_⟩
    · rintro H2 ⟨F2, S2, accV, acc, h⟩
      exact ⟨ds.length - (i + 1), by omega, rfl, hlt, F2, S2, accV, acc, h⟩
    · intro x H'' y
      obtain ⟨F2, d, e, g2, r⟩ := ok.yields i F' S' H' x H'' hlt sm st'.ok y
      have hd : ds.drop i = d :: ds.drop (i + 1) := by
        rw [drop_get hlt]
        rw [List.getElem?_eq_getElem hlt] at e
        cases e
        rfl
      rw [hd] at t'
      unfold lcD at t'
      split at t'
      · rename_i env2 e2
        have st2 := st'.go g2
        refine put_ok p e2 (st2.wipe vs) r fun σ2 st2' w => ⟨(w vs hv).trans (wipe_idem σ vs), B, F2, S', env2, _, st2', t', fun b S3 F3 H3 g3 q3 => ?_⟩
        -- D within: kept by every step
        have fD2 : ∀ {F4 S4 H4 : Hp}, Go F' S' H' F4 S4 H4 → F4 D = none ∧ S4 D = none ∧ H4 D = some (.lst accV) := fun {F4 S4 H4} g4 => by
          refine ⟨?_, ?_, g4.keep _ _ hHD' sD⟩
          · cases z : F4 D with
            | none => rfl
            | some u =>
              rcases g4.nf D (by rw [z]; exact fun z => nomatch z) with y | y
              · exact absurd fD y
              · rw [hHD'] at y; cases y
          · cases z : S4 D with
            | none => rfl
            | some u =>
              rcases g4.ns D (by rw [z]; exact fun z => nomatch z) with y | y
              · exact absurd sD y
              · rw [hHD'] at y; cases y
        cases b with
        | true =>
          rw [if_pos rfl] at q3
          refine iteT ?_
          refine ⟨B, F3, S3, env2, _, st2'.go g3, q3, fun d4 S4 F4 H4 v g4 r4 q4 => ?_⟩
          have gg : Go F' S' H' F4 S4 H4 := (g2.trans g3).trans g4
          obtain ⟨f4, s4, h4⟩ := fD2 gg
          have l4 : accV.length = acc.length := rl.length
          refine ⟨accV, h4, by rw [l4]; exact q4.1, ?_⟩
          have wr : Go F S H F4 S4 (upd H4 D (.lst (accV ++ [v]))) := by
            have g5 := g'.trans gg
            refine ⟨g5.ff, ⟨fun a u ha => ?_, fun a u ha => ?_, g5.ok.ap⟩, fun a u ha hs => ?_, fun a ha => ?_, g5.nf, g5.ns⟩
            · rw [upd_ne (ne_of_none ha f4)]; exact g5.ok.fh _ _ ha
            · rw [upd_ne (ne_of_none ha s4)]; exact g5.ok.sh _ _ ha
            · rw [upd_ne (ne_of_none ha hHD)]; exact g5.keep _ _ ha hs
            · by_cases q : a = D
              · subst q; rw [upd_same]; exact fun z => nomatch z
              · rw [upd_ne q]; exact g5.dom _ ha
          exact ⟨F4, S4, accV ++ [v], acc ++ [d4], wr, (sm.trans gg.ff), f4, s4, upd_same, (rl.mono gg.ff).append (.one r4), st.go wr, q4.2⟩
        | false =>
          rw [if_neg Bool.false_ne_true] at q3
          refine iteF ?_
          have gg : Go F' S' H' F3 S3 H3 := g2.trans g3
          obtain ⟨f4, s4, h4⟩ := fD2 gg
          exact ⟨F3, S3, accV, acc, g'.trans gg, sm.trans gg.ff, f4, s4, h4, rl.mono gg.ff, st'.go gg, q3⟩
      · exact t'.elim
  · have e : i = ds.length := by omega
    subst e
    rw [List.drop_length] at t'
    exact .inl ⟨ok.stops F' S' H' sm st'.ok, k _ S' F' H' D _ g' hHD fD sD hHD' (.lst rl) t'⟩
/-- the new list D amid a comprehension: what it holds -/
structure LcSt (K : PySem.W.Frag) (F S H F1 : Hp) (D : Addr) (acc : List DL.D) (F' S' H' : Hp) : Prop where
  go : Go F S H F' S' H'
  sm : Same F1 F'
  fd : F' D = none
  sd : S' D = none
  d : ∃ accV, H' D = some (.lst accV) ∧ RepL K F' accV acc
theorem StR.base {K : PySem.W.Frag} {B F S H : Hp} {env : Env} {σ : L2.St} {D : Addr} (h : StR K B F S env σ H) (hD : H D = none) (o : HO) : StR K (upd B D o) F S env σ H :=
  ⟨h.ok, h.len, fun i e o' h1 h2 => by
    cases h.sl i e o' h1 h2 with
    | no => exact .no
    | val r => exact .val r
    | own b f s q r =>
      rename_i a o' d'
      refine .own ?_ f s q r
      have n : a ≠ D := fun z => by subst z; rw [hD] at q; cases q
      rw [upd_ne n]; exact b, h.ap⟩
section
variable {K : PySem.W.Frag} {B F S H F1 : Hp} {D : Addr} {env : Env} {σ : L2.St} {acc : List DL.D} {F' S' H' F4 S4 H4 : Hp}
theorem LcSt.on (x : LcSt K F S H F1 D acc F' S' H') (g : Go F' S' H' F4 S4 H4) : LcSt K F S H F1 D acc F4 S4 H4 := by
  obtain ⟨accV, hD, rl⟩ := x.d
  refine ⟨x.go.trans g, x.sm.trans g.ff, ?_, ?_, accV, g.keep _ _ hD x.sd, rl.mono g.ff⟩
  · cases z : F4 D with
    | none => rfl
    | some u =>
      rcases g.nf D (by rw [z]; exact fun z => nomatch z) with y | y
      · exact absurd x.fd y
      · rw [hD] at y; cases y
  · cases z : S4 D with
    | none => rfl
    | some u =>
      rcases g.ns D (by rw [z]; exact fun z => nomatch z) with y | y
      · exact absurd x.sd y
      · rw [hD] at y; cases y
theorem LcSt.push (x : LcSt K F S H F1 D acc F' S' H') (hHD : H D = none) {v : V} {d : DL.D} (r : Rep K F' v d) : ∃ accV, H' D = some (.lst accV) ∧ accV.length = acc.length ∧ LcSt K F S H F1 D (acc ++ [d]) F' S' (upd H' D (.lst (accV ++ [v])))
    ∧ ∀ B env σ, B D ≠ none → StR K B F' S' env σ H' → StR K B F' S' env σ (upd H' D (.lst (accV ++ [v]))) := by
  obtain ⟨accV, hD, rl⟩ := x.d
  have wr : Go F S H F' S' (upd H' D (.lst (accV ++ [v]))) := by
    have g5 := x.go
    refine ⟨g5.ff, ⟨fun a u ha => ?_, fun a u ha => ?_, g5.ok.ap⟩, fun a u ha hs => ?_, fun a ha => ?_, g5.nf, g5.ns⟩
    · rw [upd_ne (ne_of_none ha x.fd)]; exact g5.ok.fh _ _ ha
    · rw [upd_ne (ne_of_none ha x.sd)]; exact g5.ok.sh _ _ ha
    · rw [upd_ne (ne_of_none ha hHD)]; exact g5.keep _ _ ha hs
    · by_cases q : a = D
      · subst q; rw [upd_same]; exact fun z => nomatch z
      · rw [upd_ne q]; exact g5.dom _ ha
  refine ⟨accV, hD, rl.length, ⟨wr, x.sm, x.fd, x.sd, _, upd_same, rl.append (.one r)⟩, fun B env σ hB st => ⟨wr.ok, st.len, fun i e o h1 h2 => ?_, st.ap⟩⟩
  cases st.sl i e o h1 h2 with
  | no => exact .no
  | val r => exact .val r
  | own b f s q r =>
    rename_i a o' d'
    refine .own b f s ?_ r
    have n : a ≠ D := fun z => by subst z; exact hB b
    rw [upd_ne n]; exact q
end
theorem drop_of {ds : List D} {i : Nat} {d : D} (h : i < ds.length) (e : ds[i]? = some d) : ds.drop i = d :: ds.drop (i + 1) := by
  rw [drop_get h]
  rw [List.getElem?_eq_getElem h] at e
  cases e
  rfl
theorem lc2_ok {K : PySem.W.Frag} {I I1 : TI Hp} {p p1 : Pat} {t t1 : TT Hp} {T : TE Hp} {vs vs1 : List Nat} {σ : L2.St} {H : Hp} {Qv : VK} (hv : ∀ i ∈ p.names, i ∈ vs) (hv1 : ∀ i ∈ p1.names, i ∈ vs1) (h : liftF K (eLc2 I p t I1 p1 t1 T vs vs1) σ H Qv) :
    tLc2 (liftI K I) (gP K p) (liftT K t) (liftI K I1) (gP K p1) (liftT K t1) (lift K T) vs vs1 σ H Qv := by
  obtain ⟨B0, F, S, env, Q, st, tt, k⟩ := h
  refine ⟨B0, F, S, env, _, st, tt, fun ds S1 F1 H1 J g1 ok q1 D hD => ?_⟩
  have hHD : H D = none := none_of_dom g1 hD
  have st := st.base hHD (.lst [])
  have hB : (upd B0 D (.lst [])) D ≠ none := by rw [upd_same]; exact fun z => nomatch z
  generalize upd B0 D (.lst []) = B at st hB
  have st1 := st.go g1
  refine ⟨fun i m H' => m = ds.length - i ∧ i ≤ ds.length ∧ ∃ F' S' acc, LcSt K F S H F1 D acc F' S' H' ∧ StR K B F' S' env σ H' ∧ lc2D p t I1 p1 t1 T vs1 (wipeE env vs) (fun acc s2 => Q (.lst acc) s2) (ds.drop i) acc S',
    ⟨ds.length, by simp, Nat.zero_le _, F1, S1, [], ⟨g1.trans (Go.newH g1.ok hD _), Same.refl _, g1.ok.fh.free hD, g1.ok.sh.free hD, [], upd_same, .nil⟩, st1.go (Go.newH g1.ok hD _), by simpa using q1⟩, ?_⟩
  rintro i m H' ⟨rfl, hi', F', S', acc, x, st', t'⟩
  by_cases hlt : i < ds.length
  · refine .inr ⟨ok.goes i F' S' H' hlt x.sm st'.ok, fun H2 => ∃ F' S' acc, LcSt K F S H F1 D acc F' S' H2 ∧ StR K B F' S' env σ H2 ∧ lc2D p t I1 p1 t1 T vs1 (wipeE env vs) (fun acc s2 => Q (.lst acc) s2) (ds.drop (i + 1)) acc S', ?_, ?_⟩
    · rintro H2 h
      exact ⟨ds.length - (i + 1), by omega, rfl, hlt, h⟩
    · intro v H'' y
      obtain ⟨F2, d, e, g2, r⟩ := ok.yields i F' S' H' v H'' hlt x.sm st'.ok y
      rw [drop_of hlt e] at t'
      unfold lc2D at t'
      split at t'
      · rename_i env2 e2
        have x2 := x.on g2
        have st2 := st'.go g2
        refine put_ok p e2 (st2.wipe vs) r fun σ2 st2' w => ⟨(w vs hv).trans (wipe_idem σ vs), B, F2, S', env2, _, st2', t', fun b S3 F3 H3 g3 q3 => ?_⟩
        have x3 := x2.on g3
        have st3 := st2.go g3
        have st3' := st2'.go g3
        cases b with
        | true =>
          rw [if_pos rfl] at q3
          refine iteT ?_
          refine ⟨B, F3, S3, env2, _, st3', q3, fun es S4 F4 H4 J1 g4 ok1 q4 => ?_⟩
          refine ⟨fun j k H' => k = es.length - j ∧ j ≤ es.length ∧ ∃ F' S' acc, LcSt K F S H F1 D acc F' S' H' ∧ Same F4 F' ∧ StR K B F' S' env σ H' ∧ StR K B F' S' env2 σ2 H' ∧ lcD p1 t1 T (wipeE env2 vs1) (fun acc' s3 => lc2D p t I1 p1 t1 T vs1 (wipeE env vs) (fun acc s2 => Q (.lst acc) s2) (ds.drop (i + 1)) acc' s3) (es.drop j) acc S',
            ⟨es.length, by simp, Nat.zero_le _, F4, S4, acc, x3.on g4, Same.refl _, st3.go g4, st3'.go g4, by simpa using q4⟩, ?_⟩
          rintro j k' H5 ⟨rfl, hj, F5, S5, acc5, x5, sm5, st5, st5', t5⟩
          by_cases hjt : j < es.length
          · refine .inr ⟨ok1.goes j F5 S5 H5 hjt sm5 st5.ok, fun H' => ∃ F' S' acc, LcSt K F S H F1 D acc F' S' H' ∧ Same F4 F' ∧ StR K B F' S' env σ H' ∧ StR K B F' S' env2 σ2 H' ∧ lcD p1 t1 T (wipeE env2 vs1) (fun acc' s3 => lc2D p t I1 p1 t1 T vs1 (wipeE env vs) (fun acc s2 => Q (.lst acc) s2) (ds.drop (i + 1)) acc' s3) (es.drop (j + 1)) acc S', ?_, ?_⟩
            · rintro H6 h
              exact ⟨es.length - (j + 1), by omega, rfl, hjt, h⟩
            · intro v6 H6 y6
              obtain ⟨F6, d6, e6, g6, r6⟩ := ok1.yields j F5 S5 H5 v6 H6 hjt sm5 st5.ok y6
              rw [drop_of hjt e6] at t5
              unfold lcD at t5
              split at t5
              · rename_i env7 e7
                have x6 := x5.on g6
                have st6 := st5.go g6
                have st6' := st5'.go g6
                refine put_ok p1 e7 (st6'.wipe vs1) r6 fun σ7 st7 w7 => ⟨(w7 vs1 hv1).trans (wipe_idem σ2 vs1), B, F6, S5, env7, _, st7, t5, fun b S8 F8 H8 g8 q8 => ?_⟩
                cases b with
                | true =>
                  rw [if_pos rfl] at q8
                  refine iteT ?_
                  refine ⟨B, F8, S8, env7, _, st7.go g8, q8, fun d9 S9 F9 H9 v9 g9 r9 q9 => ?_⟩
                  have gg := g8.trans g9
                  obtain ⟨accV, h1, h2, x9, upS⟩ := (x6.on gg).push hHD r9
                  exact ⟨accV, h1, by rw [h2]; exact q9.1, F9, S9, _, x9, sm5.trans (g6.trans gg).ff, upS B env σ hB (st6.go gg), upS B env2 σ2 hB (st6'.go gg), q9.2⟩
                | false =>
                  rw [if_neg Bool.false_ne_true] at q8
                  exact iteF ⟨F8, S8, acc5, x6.on g8, sm5.trans (g6.trans g8).ff, st6.go g8, st6'.go g8, q8⟩
              · exact t5.elim
          · have e : j = es.length := by omega
            subst e
            rw [List.drop_length] at t5
            unfold lcD at t5
            exact .inl ⟨ok1.stops F5 S5 H5 sm5 st5.ok, F5, S5, acc5, x5, st5, t5⟩
        | false =>
          rw [if_neg Bool.false_ne_true] at q3
          exact iteF ⟨F3, S3, acc, x3, st3, q3⟩
      · exact t'.elim
  · have e : i = ds.length := by omega
    subst e
    rw [List.drop_length] at t'
    obtain ⟨accV, hD', rl⟩ := x.d
    exact .inl ⟨ok.stops F' S' H' x.sm st'.ok, k _ S' F' H' D _ x.go hHD x.fd x.sd hD' (.lst rl) t'⟩
section
variable {tg it elt : Expr} {ifs : List Expr} {I : TI Hp} {p : Pat} {t : TT Hp} {scope : Scope} {own : List (PySem.Str × Nat)}
def DTs (X : Cx) (es : List Expr) (T : TT Hp) : Prop := PTs X es (liftT X.K T)
theorem dts_nil : DTs X [] tYes := pts_weak pts_nil fun σ H Qb ⟨B, F, S, env, Q, st, t, k⟩ => k true S F H (Go.refl st.ok) t
theorem dts_one {t : TT Hp} (h : DT X c t) : DTs X [c] t := pts_one h
theorem df_lc (hi : DI X tg it I) (ok : BlkOk X.N X.env.scope scope own) (hN : X.N.Nodup)
    (hg : ∀ (s : Shared) (H : Hp) (C : Addr) (cl : List (PySem.Str × Addr)) (fp : List Addr), PG (X.blk s H scope (compEnvC scope cl C X.env) fp) tg (gP X.K p)) (ht : ∀ (s : Shared) (H : Hp) (C : Addr) (cl : List (PySem.Str × Addr)) (fp : List Addr), DTs (X.blk s H scope (compEnvC scope cl C X.env) fp) ifs t)
    (he : ∀ (s : Shared) (H : Hp) (C : Addr) (cl : List (PySem.Str × Addr)) (fp : List Addr), DE (X.blk s H scope (compEnvC scope cl C X.env) fp) elt T) (hv : ∀ i ∈ p.names, i ∈ own.map (·.2) := by decide) (hc : X.calm = true := by rfl) (hs : ∀ x, foldedSetIterable it X.env x = pure x := by intro _; rfl) :
    DF X (.ListComp elt [⟨tg, it, ifs, 0⟩] scope pos) (eLc I p t T (own.map (·.2))) := pe_weak (pe_lc (tt := liftT X.K t) (te := lift X.K T) hc hN hi ok hg ht he hs) fun σ H Qv h => lc_ok hv h
theorem df_lc2 {tg1 it1 : Expr} {ifs1 : List Expr} {I1 : TI Hp} {p1 : Pat} {t1 : TT Hp} (vs1 : List Nat) (hi : DI X tg it I) (ok : BlkOk X.N X.env.scope scope own) (hN : X.N.Nodup)
    (hg : ∀ (s : Shared) (H : Hp) (C : Addr) (cl : List (PySem.Str × Addr)) (fp : List Addr), PG (X.blk s H scope (compEnvC scope cl C X.env) fp) tg (gP X.K p)) (ht : ∀ (s : Shared) (H : Hp) (C : Addr) (cl : List (PySem.Str × Addr)) (fp : List Addr), DTs (X.blk s H scope (compEnvC scope cl C X.env) fp) ifs t)
    (hi1 : ∀ (s : Shared) (H : Hp) (C : Addr) (cl : List (PySem.Str × Addr)) (fp : List Addr), DI (X.blk s H scope (compEnvC scope cl C X.env) fp) tg1 it1 I1)
    (hg1 : ∀ (s : Shared) (H : Hp) (C : Addr) (cl : List (PySem.Str × Addr)) (fp : List Addr), PG (X.blk s H scope (compEnvC scope cl C X.env) fp) tg1 (gP X.K p1)) (ht1 : ∀ (s : Shared) (H : Hp) (C : Addr) (cl : List (PySem.Str × Addr)) (fp : List Addr), DTs (X.blk s H scope (compEnvC scope cl C X.env) fp) ifs1 t1)
    (he : ∀ (s : Shared) (H : Hp) (C : Addr) (cl : List (PySem.Str × Addr)) (fp : List Addr), DE (X.blk s H scope (compEnvC scope cl C X.env) fp) elt T) (hv : ∀ i ∈ p.names, i ∈ own.map (·.2) := by decide) (hv1 : ∀ i ∈ p1.names, i ∈ vs1 := by decide) (hvv : ∀ i ∈ vs1, i ∈ own.map (·.2) := by decide) (hc : X.calm = true := by rfl) (hs : ∀ x, foldedSetIterable it X.env x = pure x := by intro _; rfl) (hs1 : ∀ env x, foldedSetIterable it1 env x = pure x := by intro _ _; rfl) :
    DF X (.ListComp elt [⟨tg, it, ifs, 0⟩, ⟨tg1, it1, ifs1, 0⟩] scope pos) (eLc2 I p t I1 p1 t1 T (own.map (·.2)) vs1) := pe_weak (pe_lc2 (wi1 := liftI X.K I1) (g1 := gP X.K p1) (tt := liftT X.K t) (tt1 := liftT X.K t1) (te := lift X.K T) hc hN hi ok hvv hg ht hi1 hg1 ht1 he hs hs1) fun σ H Qv h => lc2_ok hv hv1 h
/-- name = [..] -/
theorem ps_lcA {i : Nat} {y : PySem.Str} {py spos : Pos} (hi : DI X tg it I) (ok : BlkOk X.N X.env.scope scope own) (hN : X.N.Nodup)
    (hg : ∀ (s : Shared) (H : Hp) (C : Addr) (cl : List (PySem.Str × Addr)) (fp : List Addr), PG (X.blk s H scope (compEnvC scope cl C X.env) fp) tg (gP X.K p)) (ht : ∀ (s : Shared) (H : Hp) (C : Addr) (cl : List (PySem.Str × Addr)) (fp : List Addr), DTs (X.blk s H scope (compEnvC scope cl C X.env) fp) ifs t)
    (he : ∀ (s : Shared) (H : Hp) (C : Addr) (cl : List (PySem.Str × Addr)) (fp : List Addr), DE (X.blk s H scope (compEnvC scope cl C X.env) fp) elt T) (hsw : swapsWith (.ListComp elt [⟨tg, it, ifs, 0⟩] scope pos) (some (.Name y py)) spos.line X.env = pure true)
    (hy : X.N[i]? = some y := by rfl) (hyl : X.env.scope.names.lookup y = some .local := by rfl) (hv : ∀ i ∈ p.names, i ∈ own.map (·.2) := by decide) (hc : X.calm = true := by rfl) (hs : ∀ x, foldedSetIterable it X.env x = pure x := by intro _; rfl) :
    PS X (.Assign [.Name y py] (.ListComp elt [⟨tg, it, ifs, 0⟩] scope pos) spos) (tAsg (liftF X.K (eLc I p t T (own.map (·.2)))) (gName i)) :=
  ps_weak (ps_setLc (tt := liftT X.K t) (te := lift X.K T) hc hN hy hyl hsw hi ok hg ht he hs) fun D σ H h => lc_ok hv h
theorem ps_lc2A {i : Nat} {y : PySem.Str} {py spos : Pos} {tg1 it1 : Expr} {ifs1 : List Expr} {I1 : TI Hp} {p1 : Pat} {t1 : TT Hp} (vs1 : List Nat) (hi : DI X tg it I) (ok : BlkOk X.N X.env.scope scope own) (hN : X.N.Nodup)
    (hg : ∀ (s : Shared) (H : Hp) (C : Addr) (cl : List (PySem.Str × Addr)) (fp : List Addr), PG (X.blk s H scope (compEnvC scope cl C X.env) fp) tg (gP X.K p)) (ht : ∀ (s : Shared) (H : Hp) (C : Addr) (cl : List (PySem.Str × Addr)) (fp : List Addr), DTs (X.blk s H scope (compEnvC scope cl C X.env) fp) ifs t)
    (hi1 : ∀ (s : Shared) (H : Hp) (C : Addr) (cl : List (PySem.Str × Addr)) (fp : List Addr), DI (X.blk s H scope (compEnvC scope cl C X.env) fp) tg1 it1 I1)
    (hg1 : ∀ (s : Shared) (H : Hp) (C : Addr) (cl : List (PySem.Str × Addr)) (fp : List Addr), PG (X.blk s H scope (compEnvC scope cl C X.env) fp) tg1 (gP X.K p1)) (ht1 : ∀ (s : Shared) (H : Hp) (C : Addr) (cl : List (PySem.Str × Addr)) (fp : List Addr), DTs (X.blk s H scope (compEnvC scope cl C X.env) fp) ifs1 t1)
    (he : ∀ (s : Shared) (H : Hp) (C : Addr) (cl : List (PySem.Str × Addr)) (fp : List Addr), DE (X.blk s H scope (compEnvC scope cl C X.env) fp) elt T) (hsw : swapsWith (.ListComp elt [⟨tg, it, ifs, 0⟩, ⟨tg1, it1, ifs1, 0⟩] scope pos) (some (.Name y py)) spos.line X.env = pure true)
    (hy : X.N[i]? = some y := by rfl) (hyl : X.env.scope.names.lookup y = some .local := by rfl) (hv : ∀ i ∈ p.names, i ∈ own.map (·.2) := by decide) (hv1 : ∀ i ∈ p1.names, i ∈ vs1 := by decide) (hvv : ∀ i ∈ vs1, i ∈ own.map (·.2) := by decide) (hc : X.calm = true := by rfl) (hs : ∀ x, foldedSetIterable it X.env x = pure x := by intro _; rfl) (hs1 : ∀ env x, foldedSetIterable it1 env x = pure x := by intro _ _; rfl) :
    PS X (.Assign [.Name y py] (.ListComp elt [⟨tg, it, ifs, 0⟩, ⟨tg1, it1, ifs1, 0⟩] scope pos) spos) (tAsg (liftF X.K (eLc2 I p t I1 p1 t1 T (own.map (·.2)) vs1)) (gName i)) :=
  ps_weak (ps_setLc2 (wi1 := liftI X.K I1) (g1 := gP X.K p1) (tt := liftT X.K t) (tt1 := liftT X.K t1) (te := lift X.K T) hc hN hy hyl hsw hi ok hvv hg ht hi1 hg1 ht1 he hs hs1) fun D σ H h => lc2_ok hv hv1 h
end
/-- .. the list a value, an object of the slot's own -/
theorem asg_set {i : Nat} (h : PS X st (tAsg (liftF X.K T) (gName i))) : DS X st (sSet i T) := ps_weak h fun D σ H ⟨F0, S0, B, F, S, env, KD, g, st, t, k⟩ =>
  ⟨B, F, S, env, _, st, t, fun d S1 F1 H1 p o g1 hp fp sp hh r1 q1 => k.nx _ _ _ _ _ (g1.frz hp fp sp hh).ff (g.trans (g1.frz hp fp sp hh)) ((st.go (g1.frz hp fp sp hh)).set i (r1.rep fp)) q1⟩
theorem asg_own {i : Nat} (h : PS X st (tAsg (liftF X.K T) (gName i))) : DS X st (sOwn i T) := ps_weak h fun D σ H ⟨F0, S0, B, F, S, env, KD, g, st, t, k⟩ =>
  ⟨B, F, S, env, _, st, t, fun d S1 F1 H1 p o g1 hp fp sp hh r1 q1 => k.nx _ _ _ _ _ g1.ff (g.trans g1) (setOwn_go g st g1 hp fp sp hh r1) q1⟩
end

/-! ### defs -/
section
variable {P : Program} {w : World} {K : PySem.W.Frag} {mg : PySem.Str → Option Value} {base : Heap}
theorem start_ok {F S H : Hp} {N : List PySem.Str} {vs : List V} {ds : List D} (ok : HOK F S H) (r : RepL K F vs ds) : StR K H F S (startE N.length ds) (L2.start N vs) H := by
  refine ⟨ok, by simp [startE, L2.start, r.length], fun i e o h1 h2 => ?_, fun i j d d' a hij h1 h2 h3 h4 => ?_⟩
  · unfold startE at h1
    unfold L2.start at h2
    by_cases hi : i < ds.length
    · rw [List.getElem?_append_left (by simpa using hi)] at h1
      rw [List.getElem?_append_left (by simpa [r.length] using hi)] at h2
      rw [List.getElem?_map] at h1 h2
      cases z : ds[i]? with
      | none => rw [z] at h1; cases h1
      | some d =>
        rw [z] at h1
        cases h1
        obtain ⟨v, e1, e2⟩ := r.getD' i z
        rw [e1] at h2
        cases h2
        exact .val e2
    · rw [List.getElem?_append_right (by simpa using hi)] at h1
      have := List.mem_of_getElem? h1
      rw [List.mem_replicate] at this
      rw [this.2]
      exact .no
  · unfold startE at h1
    by_cases hi : i < ds.length
    · rw [List.getElem?_append_left (by simpa using hi), List.getElem?_map] at h1
      cases z : ds[i]? with
      | none => rw [z] at h1; cases h1
      | some d => rw [z] at h1; cases h1
    · rw [List.getElem?_append_right (by simpa using hi)] at h1
      have := List.mem_of_getElem? h1
      rw [List.mem_replicate] at this
      cases this.2
/-- a def: its body's reading is its promise -/
theorem fn_ok {x qual : PySem.Str} {st : Stmt} {f : Addr} {fd : FuncData} {N ps : List PySem.Str} {k : Nat} {T : (D → Hp → Prop) → TS Hp} (G : Fun K x qual st f fd) (sc : FnScope N ps (defScope st))
    (hbody : ∀ (cdv : Value) (A : Around) (outer : List PySem.Env) (s : Shared) (H : Hp) (E : XK) (ex : D → Hp → Prop), Room k (A.deeper (PyProof.Rows.envOfC qual (defScope st) s.heap.objs.size f cdv)) → DSs (cxOf CX0 P w K mg base N qual (defScope st) f cdv A outer s H E).nox (defBody st) (T ex)) :
    FnOk P w K mg base CX0 (k + 1) f fd ps (spOf K ps.length (fDef N.length T)) := by
  refine G.ok sc (fun vs H Q E h => h.1) fun cdv A outer s H vs Q E hr ⟨hl, F, S, ds, kk, ex, ok, r, t, k⟩ => ⟨_, hbody cdv A outer s H E ex hr, ?_⟩
  refine ⟨F, S, H, F, S, startE N.length ds, _, Go.refl ok, start_ok ok r, t, ⟨fun F' S' H' env σ _ g st q => k _ _ _ _ _ g .non q, fun F' S' H' d v _ g r q => k _ _ _ _ _ g r q, fun _ _ _ _ _ _ _ _ q => q.elim, fun _ _ _ _ _ _ _ _ q => q.elim⟩⟩
end
end DL

end
section
set_option linter.all false
set_option maxRecDepth 100000
set_option autoImplicit false
/-! The data layer, sound part 4: operations. -/
namespace DL
open PySem L2 PyProof.Rows

theorem line_eq : line = sizeLine := rfl
section
variable {K : PySem.W.Frag} {F S H : Hp}
mutual
theorem rep_dp : ∀ (n : Nat) {v : V} {d : D}, flat n d = true → Rep K F v d → Dp K F v (toPy d)
  | n, v, .non, h, r => by cases r; exact .non
  | n, v, .bl b, h, r => by cases r; exact .bl b
  | n, v, .int i, h, r => by cases r; exact .int i
  | n, v, .str x, h, r => by cases r; exact .str x
  | 0, v, .tup xs, h, r => by simp [flat] at h
  | n + 1, v, .tup xs, h, r => by
    cases r with
    | tup q rl => exact .tup (.of q) (rep_dps n (by simpa [flat] using h) rl)
  | 0, v, .lst xs, h, r => by simp [flat] at h
  | n + 1, v, .lst xs, h, r => by
    cases r with
    | lst q rl => exact .lst (.of q) (rep_dps n (by simpa [flat] using h) rl)
  | n, v, .ty _, h, r => by cases n <;> simp [flat] at h
  | n, v, .obj _, h, r => by cases n <;> simp [flat] at h
  | n, v, .scr _, h, r => by cases n <;> simp [flat] at h
  | n, v, .dK _, h, r => by cases n <;> simp [flat] at h
  | n, v, .dT _, h, r => by cases n <;> simp [flat] at h
theorem rep_dps : ∀ (n : Nat) {vs : List V} {ds : List D}, flats n ds = true → RepL K F vs ds → DpAll K F vs (toPys ds)
  | n, _, [], h, r => by cases r; exact .nil
  | n, _, d :: ds, h, r => by
    cases r with
    | cons r1 r2 =>
      have h' : (flat n d && flats n ds) = true := by simpa [flats] using h
      rw [Bool.and_eq_true] at h'
      exact .cons (rep_dp n h'.1 r1) (rep_dps n h'.2 r2)
end
mutual
theorem dp_mono {F' : Hp} (e : Same F F') : ∀ {v : V} {d : PyData}, Dp K F v d → Dp K F' v d
  | _, _, .non => .non
  | _, _, .bl b => .bl b
  | _, _, .int i => .int i
  | _, _, .str x => .str x
  | _, _, .lst q r => .lst (e.seq q) (dps_mono e r)
  | _, _, .tup q r => .tup (sqT_mono e q) (dps_mono e r)
theorem dps_mono {F' : Hp} (e : Same F F') : ∀ {vs : List V} {ds : List PyData}, DpAll K F vs ds → DpAll K F' vs ds
  | _, _, .nil => .nil
  | _, _, .cons h r => .cons (dp_mono e h) (dps_mono e r)
end
theorem repB_dp {n : Nat} {v : V} {d : D} (ok : HOK F S H) (h : flat n d = true) (r : RepB K F S H v d) : Dp K H v (toPy d) := by
  rcases r with r | ⟨a, o, rfl, hs, hh, r⟩
  · exact dp_mono ok.fh (rep_dp n h r)
  · cases r with
    | lst rl =>
      cases n with
      | zero => simp [flat] at h
      | succ n => exact .lst (.of hh) (dps_mono ok.fh (rep_dps n (by simpa [flat] using h) rl))
    | dK _ _ => cases n <;> simp [flat] at h
    | dT _ _ => cases n <;> simp [flat] at h
mutual
theorem flat_lay : ∀ (n : Nat) (d : D), flat n d = true → (toPy d).canLay0 = true ∧ (toPy d).depth ≤ n + 1
  | n, .non, h => ⟨by simp [toPy, PyData.canLay0], by simp [toPy, PyData.depth]⟩
  | n, .bl b, h => ⟨by simp [toPy, PyData.canLay0], by simp [toPy, PyData.depth]⟩
  | n, .int i, h => ⟨by simp [toPy, PyData.canLay0], by simp [toPy, PyData.depth]⟩
  | n, .str x, h => ⟨by simpa [toPy, PyData.canLay0, flat] using h, by simp [toPy, PyData.depth]⟩
  | 0, .tup xs, h => by simp [flat] at h
  | n + 1, .tup xs, h => by
    obtain ⟨h1, h2⟩ := flats_lay n xs (by simpa [flat] using h)
    exact ⟨by simpa [toPy, PyData.canLay0] using h1, by simp only [toPy, PyData.depth]; omega⟩
  | 0, .lst xs, h => by simp [flat] at h
  | n + 1, .lst xs, h => by
    obtain ⟨h1, h2⟩ := flats_lay n xs (by simpa [flat] using h)
    exact ⟨by simpa [toPy, PyData.canLay0] using h1, by simp only [toPy, PyData.depth]; omega⟩
  | n, .ty _, h => by cases n <;> simp [flat] at h
  | n, .obj _, h => by cases n <;> simp [flat] at h
  | n, .scr _, h => by cases n <;> simp [flat] at h
  | n, .dK _, h => by cases n <;> simp [flat] at h
  | n, .dT _, h => by cases n <;> simp [flat] at h
theorem flats_lay : ∀ (n : Nat) (ds : List D), flats n ds = true → PyData.canLayAll0 (toPys ds) = true ∧ PyData.depthAll (toPys ds) ≤ n + 1
  | n, [], h => ⟨by simp [toPys, PyData.canLayAll0], by simp [toPys, PyData.depthAll]⟩
  | n, d :: ds, h => by
    have h' : (flat n d && flats n ds) = true := by simpa [flats] using h
    rw [Bool.and_eq_true] at h'
    obtain ⟨a1, a2⟩ := flat_lay n d h'.1
    obtain ⟨b1, b2⟩ := flats_lay n ds h'.2
    refine ⟨by simp only [toPys, PyData.canLayAll0, a1, b1, Bool.and_self], ?_⟩
    simp only [toPys, PyData.depthAll]
    omega
end
theorem flat_shaped {d : D} (h : flat deep d = true) : SeqAt.shaped (toPy d) = true := by
  obtain ⟨h1, h2⟩ := flat_lay deep d h
  have h3 : (toPy d).depth ≤ 64 := Nat.le_trans h2 (by decide)
  unfold SeqAt.shaped
  rw [h1, decide_eq_true h3]
  rfl
theorem flats_shaped {ds : List D} (h : flats deep ds = true) : SeqAt.shaped (.list (toPys ds)) = true := by
  obtain ⟨h1, h2⟩ := flats_lay deep ds h
  have h3 : (PyData.list (toPys ds)).depth ≤ 64 := by
    simp only [PyData.depth]
    have : deep = 12 := rfl
    omega
  unfold SeqAt.shaped
  rw [decide_eq_true h3]
  simp only [PyData.canLay0, h1]
  rfl
end

section
variable {X : Cx}
/-- for an operation that makes nothing -/
theorem okMul_ok {i j : Int} (h : okMul i j) : IntMulOk i j := by
  rcases h with h | h | h
  · exact CMul.ok (.inl ⟨by omega, by omega⟩)
  · exact CMul.ok (.inr ⟨by omega, by omega⟩)
  · exact CMulW.ok h
theorem rep_new {K : PySem.W.Frag} {F S H : Hp} {vs : List V} {ds : List D} (ok : HOK F S H) {p : Addr} (hp : H p = none) (r : RepL K F vs ds) : Go F S H (upd F p (.tup vs)) S (upd H p (.tup vs)) ∧ Rep K (upd F p (.tup vs)) (.ref p) (.tup ds) :=
  ⟨Go.new ok hp _, .tup upd_same (r.mono (Go.new ok hp _).ff)⟩
theorem o_add : OpR X (binaryOp .Add) (rOf X.K opAdd) := by
  intro pins s σ H x y v u Qv I rx ry ⟨F, S, dx, dy, k, ok, r1, r2, t, kk⟩
  unfold opAdd at t
  split at t
  · have e1 := r1.int; have e2 := r2.int; subst e1; subst e2
    exact op_add pins s σ H _ _ v u _ I rx ry ⟨_, _, rfl, rfl, kk _ F H _ (Go.refl ok) (.int _) t⟩
  · have e1 := r1.str; have e2 := r2.str; subst e1; subst e2
    exact op_add_str pins s σ H _ _ v u _ I rx ry ⟨_, _, rfl, rfl, t.1, kk _ F H _ (Go.refl ok) (.str _) t.2⟩
  · rename_i ds es
    obtain ⟨a, xs, rfl, hx, rx'⟩ := r1.tup ok
    obtain ⟨b, ys, rfl, hy, ry'⟩ := r2.tup ok
    have lx := rx'.length
    have ly := ry'.length
    refine op_catA pins s σ H _ _ v u _ I rx ry ⟨a, b, xs, ys, rfl, rfl, hx, hy, by rw [lx, ly]; exact t.1, fun e => ?_, fun _ e => ?_, fun _ _ p hp => ?_⟩
    · subst e
      cases rx'
      have q : Rep X.K F (.ref b) (.tup es) := by
        rcases r2 with r2 | ⟨a', o, e, hs, hh, r⟩
        · exact r2
        · cases r
      exact kk _ F H _ (Go.refl ok) q t.2
    · subst e
      cases ry'
      have q : Rep X.K F (.ref a) (.tup ds) := by
        rcases r1 with r1 | ⟨a', o, e, hs, hh, r⟩
        · exact r1
        · cases r
      rw [List.append_nil] at t
      exact kk _ F H _ (Go.refl ok) q t.2
    · obtain ⟨g, r⟩ := rep_new ok hp (rx'.append ry')
      exact kk _ _ _ _ g r t.2
  · exact t.elim
theorem o_cat : OpR X (binaryOp .Add) (rOfF X.K opCat) := by
  intro pins s σ H x y v u Qv I rx ry ⟨F, S, dx, dy, k, ok, r1, r2, t, kk⟩
  unfold opCat at t
  split at t
  · obtain ⟨a, xs, rfl, hx, rx'⟩ := r1.list ok
    obtain ⟨b, ys, rfl, hy, ry'⟩ := r2.list ok
    refine op_cat pins s σ H _ _ v u _ I rx ry ⟨a, b, xs, ys, rfl, rfl, hx, hy, by rw [rx'.length, ry'.length]; exact t.1, fun p hp => ?_⟩
    exact kk _ F _ p _ (Go.newH ok hp _) hp (ok.fh.free hp) (ok.sh.free hp) upd_same (.lst (rx'.append ry')) t.2
  · exact t.elim
theorem o_sub : OpR X (binaryOp .Sub) (rOf X.K opSub) := by
  intro pins s σ H x y v u Qv I rx ry ⟨F, S, dx, dy, k, ok, r1, r2, t, kk⟩
  unfold opSub at t
  split at t
  · have e1 := r1.int; have e2 := r2.int; subst e1; subst e2
    exact op_sub pins s σ H _ _ v u _ I rx ry ⟨_, _, rfl, rfl, kk _ F H _ (Go.refl ok) (.int _) t⟩
  · exact t.elim
theorem o_div : OpR X (binaryOp .FloorDiv) (rOf X.K opDiv) := by
  intro pins s σ H x y v u Qv I rx ry ⟨F, S, dx, dy, k, ok, r1, r2, t, kk⟩
  unfold opDiv at t
  split at t
  · have e1 := r1.int; have e2 := r2.int; subst e1; subst e2
    obtain ⟨tk, rfl⟩ := rx
    obtain ⟨tk', rfl⟩ := ry
    exact floordiv_int t.1.1 ⟨.int _, H, I.tok _, ⟨_, rfl⟩, kk _ F H _ (Go.refl ok) (.int _) t.2⟩ (.inl (PyProof.noPylong_of_log2 t.1.2))
  · exact t.elim
theorem o_mod : OpR X (binaryOp .Mod) (rOf X.K opMod) := by
  intro pins s σ H x y v u Qv I rx ry ⟨F, S, dx, dy, k, ok, r1, r2, t, kk⟩
  unfold opMod at t
  split at t
  · have e1 := r1.int; have e2 := r2.int; subst e1; subst e2
    exact op_modN pins s σ H _ _ v u _ I rx ry ⟨_, _, rfl, rfl, t.1, kk _ F H _ (Go.refl ok) (.int _) t.2⟩
  · exact t.elim
theorem o_pow : OpR X (binaryOp .Pow) (rOf X.K opPow) := by
  intro pins s σ H x y v u Qv I rx ry ⟨F, S, dx, dy, k, ok, r1, r2, t, kk⟩
  unfold opPow at t
  split at t
  · have e1 := r1.int; have e2 := r2.int; subst e1; subst e2
    exact op_pow pins s σ H _ _ v u _ I rx ry ⟨_, _, rfl, rfl, ⟨t.1, t.2.1, t.2.2.1⟩, kk _ F H _ (Go.refl ok) (.int _) t.2.2.2⟩
  · exact t.elim
theorem o_neg : UnR X (unaryOp .USub) (uOf X.K unNeg) := by
  intro pins s σ H x v Qv I rx ⟨F, S, dx, k, ok, r1, t, kk⟩
  unfold unNeg at t
  split at t
  · have e1 := r1.int; subst e1
    exact un_neg pins s σ H _ v _ I rx ⟨_, rfl, kk _ F H _ (Go.refl ok) (.int _) t⟩
  · exact t.elim
theorem intsOf_rep {K : PySem.W.Frag} {F : Hp} : ∀ {ds : List D} {vs : List V} {ns : List Int}, intsOf ds = some ns → RepL K F vs ds → vs = ns.map .int
  | [], _, _, e, .nil => by simp [intsOf] at e; subst e; rfl
  | d :: ds, _, ns, e, .cons r q => by
    cases d with
    | int i =>
      cases r
      simp only [intsOf, Option.map_eq_some_iff] at e
      obtain ⟨ms, e1, rfl⟩ := e
      rw [intsOf_rep e1 q]
      rfl
    | _ => simp [intsOf] at e
theorem lexD_lt : ∀ (ns ms : List Int), HT.lexLt ns ms = lexD (fun x y => decide (x < y)) (decide (ns.length < ms.length)) ns ms
  | [], [] => rfl
  | [], _ :: _ => by simp [lexD, HT.lexLt]
  | _ :: _, [] => by simp [lexD, HT.lexLt]
  | x :: xs, y :: ys => by
    rw [HT.lexLt_cons, lexD_lt xs ys]
    simp [lexD]
theorem lexAt_shift {e r : Nat → Bool} {z : Bool} : ∀ (k i : Nat), Ob.lexAt e r z (i + 1) k = Ob.lexAt (fun j => e (j + 1)) (fun j => r (j + 1)) z i k
  | 0, _ => rfl
  | k + 1, i => by
    rw [Ob.lexAt_succ, Ob.lexAt_succ, lexAt_shift k (i + 1)]
theorem lexAt_eq (r : Int → Int → Bool) (z : Bool) : ∀ (ns ms : List Int), Ob.lexAt (fun j => decide (ns.getD j 0 = ms.getD j 0)) (fun j => r (ns.getD j 0) (ms.getD j 0)) z 0 (min ns.length ms.length) = lexD r z ns ms
  | [], ms => by simp [lexD, Ob.lexAt_zero]
  | _ :: _, [] => by simp [lexD, Ob.lexAt_zero]
  | x :: xs, y :: ys => by
    have e : min (x :: xs).length (y :: ys).length = min xs.length ys.length + 1 := by simp only [List.length_cons]; omega
    rw [e, Ob.lexAt_succ, lexAt_shift]
    have ih := lexAt_eq r z xs ys
    simp only [List.getD_cons_zero, List.getD_cons_succ, lexD, decide_eq_true_eq]
    split
    · exact ih
    · rfl
def rGtT (K : PySem.W.Frag) : R2 := fun x y H Q => ∃ (a b : Addr) (ns ms : List Int), x = .ref a ∧ y = .ref b ∧ SqT K H a (ns.map V.int) ∧ SqT K H b (ms.map V.int) ∧ Q (.bl (lexD (fun x y => decide (y < x)) (decide (ms.length < ns.length)) ns ms)) H
def rGeT (K : PySem.W.Frag) : R2 := fun x y H Q => ∃ (a b : Addr) (ns ms : List Int), x = .ref a ∧ y = .ref b ∧ SqT K H a (ns.map V.int) ∧ SqT K H b (ms.map V.int) ∧ Q (.bl (lexD (fun x y => decide (y ≤ x)) (decide (ms.length ≤ ns.length)) ns ms)) H
theorem op_geT {X : Cx} (hu : X.A.units < cLine) : OpR X (compareOp .GtE) (rGeT X.K) := by
  intro pins s σ H x y v u Q I rx ry hh
  obtain ⟨a, b, ns, ms, rfl, rfl, ha, hb, q⟩ := hh
  cases rx
  cases ry
  obtain ⟨its, r1, p1, _⟩ := I.tuple ha
  obtain ⟨its2, r2, p2, _⟩ := I.tuple hb
  have i1 : IntsAre its ns := Vals.ints r1
  have i2 : IntsAre its2 ms := Vals.ints r2
  have e1 : its.toArray.size = ns.length := by rw [List.size_toArray]; exact i1.length
  have e2 : its2.toArray.size = ms.length := by rw [List.size_toArray]; exact i2.length
  have at1 : ∀ j (h1 : j < its.toArray.size), ∃ t, its.toArray[j] = .int (ns.getD j 0) t := fun j h1 => PyProof.Rows.IntsAre.int_at i1 _ _ (by simp at h1; simp [h1])
  have at2 : ∀ j (h1 : j < its2.toArray.size), ∃ t, its2.toArray[j] = .int (ms.getD j 0) t := fun j h1 => PyProof.Rows.IntsAre.int_at i2 _ _ (by simp at h1; simp [h1])
  have R := Ob.RcOp.tuples_ge (A := X.A) (s := s) (e := fun j => decide (ns.getD j 0 = ms.getD j 0)) (r := fun j => decide (ms.getD j 0 ≤ ns.getD j 0)) p1 p2 hu (fun j h1 h2 => by
    obtain ⟨t, et⟩ := at1 j h1
    obtain ⟨t', et'⟩ := at2 j h2
    rw [et, et']
    have z : (ns.getD j 0 == ms.getD j 0) = decide (ns.getD j 0 = ms.getD j 0) := by
      by_cases q : ns.getD j 0 = ms.getD j 0
      · rw [decide_eq_true q]; exact beq_iff_eq.mpr q
      · rw [decide_eq_false q]; exact beq_eq_false_iff_ne.mpr q
    rw [← z]
    exact SeqAt.EqAt.int_int _ _ _ _) (fun j h1 h2 _ => by
    obtain ⟨t, et⟩ := at1 j h1
    obtain ⟨t', et'⟩ := at2 j h2
    rw [et, et']
    exact Ob.RcOp.ge_int _ _ _ _)
  rw [e1, e2] at R
  have z : wpAny (model X.prog X.w) X.A (compareOp .GtE (.ref a) (.ref b)) (EP X pins σ Q) X.xe s := R X.prog X.w X.xe (EP X pins σ Q) ⟨.bl _, H, I, rfl, by
    have ee := lexAt_eq (fun x y => decide (y ≤ x)) (decide (ms.length ≤ ns.length)) ns ms
    rw [show decide (ns.length ≥ ms.length) = decide (ms.length ≤ ns.length) from rfl, ee]; exact q⟩
  exact z
theorem op_gtT {X : Cx} (hu : X.A.units < cLine) : OpR X (compareOp .Gt) (rGtT X.K) := by
  intro pins s σ H x y v u Q I rx ry hh
  obtain ⟨a, b, ns, ms, rfl, rfl, ha, hb, q⟩ := hh
  cases rx
  cases ry
  obtain ⟨its, r1, p1, _⟩ := I.tuple ha
  obtain ⟨its2, r2, p2, _⟩ := I.tuple hb
  have i1 : IntsAre its ns := Vals.ints r1
  have i2 : IntsAre its2 ms := Vals.ints r2
  have e1 : its.toArray.size = ns.length := by rw [List.size_toArray]; exact i1.length
  have e2 : its2.toArray.size = ms.length := by rw [List.size_toArray]; exact i2.length
  have at1 : ∀ j (h1 : j < its.toArray.size), ∃ t, its.toArray[j] = .int (ns.getD j 0) t := fun j h1 => PyProof.Rows.IntsAre.int_at i1 _ _ (by simp at h1; simp [h1])
  have at2 : ∀ j (h1 : j < its2.toArray.size), ∃ t, its2.toArray[j] = .int (ms.getD j 0) t := fun j h1 => PyProof.Rows.IntsAre.int_at i2 _ _ (by simp at h1; simp [h1])
  have R := Ob.RcOp.tuples_gt (A := X.A) (s := s) (e := fun j => decide (ns.getD j 0 = ms.getD j 0)) (r := fun j => decide (ms.getD j 0 < ns.getD j 0)) p1 p2 hu (fun j h1 h2 => by
    obtain ⟨t, et⟩ := at1 j h1
    obtain ⟨t', et'⟩ := at2 j h2
    rw [et, et']
    have z : (ns.getD j 0 == ms.getD j 0) = decide (ns.getD j 0 = ms.getD j 0) := by
      by_cases q : ns.getD j 0 = ms.getD j 0
      · rw [decide_eq_true q]; exact beq_iff_eq.mpr q
      · rw [decide_eq_false q]; exact beq_eq_false_iff_ne.mpr q
    rw [← z]
    exact SeqAt.EqAt.int_int _ _ _ _) (fun j h1 h2 _ => by
    obtain ⟨t, et⟩ := at1 j h1
    obtain ⟨t', et'⟩ := at2 j h2
    rw [et, et']
    exact Ob.RcOp.gt_int _ _ _ _)
  rw [e1, e2] at R
  have z : wpAny (model X.prog X.w) X.A (compareOp .Gt (.ref a) (.ref b)) (EP X pins σ Q) X.xe s := R X.prog X.w X.xe (EP X pins σ Q) ⟨.bl _, H, I, rfl, by
    have ee := lexAt_eq (fun x y => decide (y < x)) (decide (ms.length < ns.length)) ns ms
    rw [show decide (ns.length > ms.length) = decide (ms.length < ns.length) from rfl, ee]; exact q⟩
  exact z
theorem units_lt {n : Nat} (h : n + 64 < cLine) : n < cLine := by omega
theorem o_lt (hu : X.A.units + 64 < cLine) : OpR X (compareOp .Lt) (rOf X.K opLt) := by
  intro pins s σ H x y v u Qv I rx ry ⟨F, S, dx, dy, k, ok, r1, r2, t, kk⟩
  unfold opLt at t
  split at t
  · have e1 := r1.int; have e2 := r2.int; subst e1; subst e2
    exact op_lt pins s σ H _ _ v u _ I rx ry ⟨_, _, rfl, rfl, kk _ F H _ (Go.refl ok) (.bl _) t⟩
  · split at t
    · rename_i ns ms e1 e2
      obtain ⟨a, vs, rfl, hx, rx'⟩ := r1.tup ok
      obtain ⟨b, us, rfl, hy, ry'⟩ := r2.tup ok
      have q1 := intsOf_rep e1 rx'
      have q2 := intsOf_rep e2 ry'
      subst q1 q2
      refine op_ltT (units_lt hu) pins s σ H _ _ v u _ I rx ry ⟨a, b, ns, ms, rfl, rfl, hx, hy, ?_⟩
      rw [lexD_lt]; exact kk _ F H _ (Go.refl ok) (.bl _) t
    · exact t.elim
  · exact t.elim
theorem o_le (hu : X.A.units + 64 < cLine) : OpR X (compareOp .LtE) (rOf X.K opLe) := by
  intro pins s σ H x y v u Qv I rx ry ⟨F, S, dx, dy, k, ok, r1, r2, t, kk⟩
  unfold opLe at t
  split at t
  · have e1 := r1.int; have e2 := r2.int; subst e1; subst e2
    exact op_le pins s σ H _ _ v u _ I rx ry ⟨_, _, rfl, rfl, kk _ F H _ (Go.refl ok) (.bl _) t⟩
  · split at t
    · rename_i ns ms e1 e2
      obtain ⟨a, vs, rfl, hx, rx'⟩ := r1.tup ok
      obtain ⟨b, us, rfl, hy, ry'⟩ := r2.tup ok
      have q1 := intsOf_rep e1 rx'
      have q2 := intsOf_rep e2 ry'
      subst q1 q2
      refine op_leT (units_lt hu) pins s σ H _ _ v u _ I rx ry ⟨a, b, ns, ms, rfl, rfl, hx, hy, ?_⟩
      rw [lexAt_eq (fun x y => decide (x ≤ y))]; exact kk _ F H _ (Go.refl ok) (.bl _) t
    · exact t.elim
  · exact t.elim
theorem o_gt (hu : X.A.units + 64 < cLine) : OpR X (compareOp .Gt) (rOf X.K opGt) := by
  intro pins s σ H x y v u Qv I rx ry ⟨F, S, dx, dy, k, ok, r1, r2, t, kk⟩
  unfold opGt at t
  split at t
  · have e1 := r1.int; have e2 := r2.int; subst e1; subst e2
    exact op_gt pins s σ H _ _ v u _ I rx ry ⟨_, _, rfl, rfl, kk _ F H _ (Go.refl ok) (.bl _) t⟩
  · split at t
    · rename_i ns ms e1 e2
      obtain ⟨a, vs, rfl, hx, rx'⟩ := r1.tup ok
      obtain ⟨b, us, rfl, hy, ry'⟩ := r2.tup ok
      have q1 := intsOf_rep e1 rx'
      have q2 := intsOf_rep e2 ry'
      subst q1 q2
      refine op_gtT (units_lt hu) pins s σ H _ _ v u _ I rx ry ⟨a, b, ns, ms, rfl, rfl, hx, hy, ?_⟩
      exact kk _ F H _ (Go.refl ok) (.bl _) t
    · exact t.elim
  · exact t.elim
theorem o_ge (hu : X.A.units + 64 < cLine) : OpR X (compareOp .GtE) (rOf X.K opGe) := by
  intro pins s σ H x y v u Qv I rx ry ⟨F, S, dx, dy, k, ok, r1, r2, t, kk⟩
  unfold opGe at t
  split at t
  · have e1 := r1.int; have e2 := r2.int; subst e1; subst e2
    exact op_ge pins s σ H _ _ v u _ I rx ry ⟨_, _, rfl, rfl, kk _ F H _ (Go.refl ok) (.bl _) t⟩
  · split at t
    · rename_i ns ms e1 e2
      obtain ⟨a, vs, rfl, hx, rx'⟩ := r1.tup ok
      obtain ⟨b, us, rfl, hy, ry'⟩ := r2.tup ok
      have q1 := intsOf_rep e1 rx'
      have q2 := intsOf_rep e2 ry'
      subst q1 q2
      refine op_geT (units_lt hu) pins s σ H _ _ v u _ I rx ry ⟨a, b, ns, ms, rfl, rfl, hx, hy, ?_⟩
      exact kk _ F H _ (Go.refl ok) (.bl _) t
    · exact t.elim
  · exact t.elim
theorem o_isB : OpR X (compareOp .Is) (rOf X.K opIsB) := by
  intro pins s σ H x y v u Qv I rx ry ⟨F, S, dx, dy, k, ok, r1, r2, t, kk⟩
  unfold opIsB at t
  split at t
  · have e1 := r1.bl; have e2 := r2.bl; subst e1; subst e2
    exact op_is_bl pins s σ H _ _ v u _ I rx ry ⟨_, _, rfl, rfl, kk _ F H _ (Go.refl ok) (.bl _) t⟩
  · exact t.elim
theorem o_isNotB : OpR X (compareOp .IsNot) (rOf X.K opIsNotB) := by
  intro pins s σ H x y v u Qv I rx ry ⟨F, S, dx, dy, k, ok, r1, r2, t, kk⟩
  unfold opIsNotB at t
  split at t
  · have e1 := r1.bl; have e2 := r2.bl; subst e1; subst e2
    exact op_isnot_bl pins s σ H _ _ v u _ I rx ry ⟨_, _, rfl, rfl, kk _ F H _ (Go.refl ok) (.bl _) t⟩
  · exact t.elim
theorem o_eq (hu : X.A.units + 64 < cLine) : OpR X (compareOp .Eq) (rOf X.K opEq) := by
  intro pins s σ H x y v u Qv I rx ry ⟨F, S, dx, dy, k, ok, r1, r2, t, kk⟩
  unfold opEq at t
  split at t
  · rename_i i j
    have e1 := r1.int; have e2 := r2.int; subst e1; subst e2
    refine op_eq pins s σ H _ _ v u _ I rx ry ⟨rfl, ?_⟩
    have e : decide (V.int i = V.int j) = decide (i = j) := by
      rw [dec_int]; rfl
    rw [e]
    exact kk _ F H _ (Go.refl ok) (.bl _) t
  · rename_i i j
    have e1 := r1.str; have e2 := r2.str; subst e1; subst e2
    refine op_eq pins s σ H _ _ v u _ I rx ry ⟨rfl, ?_⟩
    have e : decide (V.str i = V.str j) = decide (i = j) := by
      rw [dec_str]; rfl
    rw [e]
    exact kk _ F H _ (Go.refl ok) (.bl _) t
  · exact op_eqD hu pins s σ H _ _ v u _ I rx ry ⟨_, _, repB_dp ok t.1 r1, repB_dp ok t.2.1 r2, flat_shaped t.1, flat_shaped t.2.1, kk _ F H _ (Go.refl ok) (.bl _) t.2.2⟩
theorem o_ne (hu : X.A.units + 64 < cLine) : OpR X (compareOp .NotEq) (rOf X.K opNe) := by
  intro pins s σ H x y v u Qv I rx ry ⟨F, S, dx, dy, k, ok, r1, r2, t, kk⟩
  unfold opNe at t
  split at t
  · rename_i i j
    have e1 := r1.int; have e2 := r2.int; subst e1; subst e2
    refine op_ne pins s σ H _ _ v u _ I rx ry ⟨rfl, ?_⟩
    have e : decide (V.int i = V.int j) = decide (i = j) := by
      rw [dec_int]; rfl
    rw [e]
    exact kk _ F H _ (Go.refl ok) (.bl _) t
  · rename_i i j
    have e1 := r1.str; have e2 := r2.str; subst e1; subst e2
    refine op_ne pins s σ H _ _ v u _ I rx ry ⟨rfl, ?_⟩
    have e : decide (V.str i = V.str j) = decide (i = j) := by
      rw [dec_str]; rfl
    rw [e]
    exact kk _ F H _ (Go.refl ok) (.bl _) t
  · exact op_neD hu pins s σ H _ _ v u _ I rx ry ⟨_, _, repB_dp ok t.1 r1, repB_dp ok t.2.1 r2, flat_shaped t.1, flat_shaped t.2.1, kk _ F H _ (Go.refl ok) (.bl _) t.2.2⟩
theorem isNon_dec {K : PySem.W.Frag} {F S H : Hp} {x : V} {d : D} (r : RepB K F S H x d) : decide (x = .non) = isNon d := by
  rcases r with r | ⟨a, o, rfl, hs, hh, r⟩
  · cases r <;> rfl
  · cases r <;> rfl
theorem o_isN : OpR X (compareOp .Is) (rOf X.K opIsN) := by
  intro pins s σ H x y v u Qv I rx ry ⟨F, S, dx, dy, k, ok, r1, r2, t, kk⟩
  unfold opIsN at t
  split at t
  · have e2 := r2.non; subst e2
    refine op_isN pins s σ H _ _ v u _ I rx ry ⟨rfl, ?_⟩
    rw [isNon_dec r1]
    exact kk _ F H _ (Go.refl ok) (.bl _) t
  · exact t.elim
theorem o_notN : OpR X (compareOp .IsNot) (rOf X.K opNotN) := by
  intro pins s σ H x y v u Qv I rx ry ⟨F, S, dx, dy, k, ok, r1, r2, t, kk⟩
  unfold opNotN at t
  split at t
  · have e2 := r2.non; subst e2
    refine op_notN pins s σ H _ _ v u _ I rx ry ⟨rfl, ?_⟩
    rw [isNon_dec r1]
    exact kk _ F H _ (Go.refl ok) (.bl _) t
  · exact t.elim
theorem o_mulI : OpR X (binaryOp .Mult) (rOf X.K opMulI) := by
  intro pins s σ H x y v u Qv I rx ry ⟨F, S, dx, dy, k, ok, r1, r2, t, kk⟩
  unfold opMulI at t
  split at t
  · have e1 := r1.int; have e2 := r2.int; subst e1; subst e2
    obtain ⟨tk, rfl⟩ := rx
    obtain ⟨tk', rfl⟩ := ry
    exact mul_int ⟨.int _, H, I.tok _, ⟨_, rfl⟩, kk _ F H _ (Go.refl ok) (.int _) t.2⟩ (okMul_ok t.1)
  · exact t.elim
end
end DL

end
section
set_option linter.all false
set_option maxRecDepth 100000
set_option autoImplicit false
/-! The data layer, sound part 5: in, subscripts, slices, built-in functions. -/
namespace DL
open PySem L2 PyProof.Rows
section
variable {X : Cx}
theorem toPys_map : ∀ ds : List D, toPys ds = ds.map toPy
  | [] => rfl
  | d :: ds => by simp [toPys, toPys_map ds]
theorem inD_eq (x : D) (ys : List D) : ((toPys ys).any fun z => PyData.eqv z (toPy x)) = inD x ys := by
  rw [toPys_map, List.any_map]
  rfl
theorem dp_items {K : PySem.W.Frag} {F S H : Hp} {v : V} {ys : List D} {n : Nat} (ok : HOK F S H) (h : flats n ys = true) (r : RepB K F S H v (.lst ys)) : Dp K H v (.list (toPys ys)) := by
  obtain ⟨a, vs, rfl, hh, rl⟩ := r.list ok
  exact .lst (.of hh) (dps_mono ok.fh (rep_dps n h rl))
theorem dp_itemsT {K : PySem.W.Frag} {F S H : Hp} {v : V} {ys : List D} {n : Nat} (ok : HOK F S H) (h : flats n ys = true) (r : RepB K F S H v (.tup ys)) : Dp K H v (.tuple (toPys ys)) := by
  obtain ⟨a, vs, rfl, hh, rl⟩ := r.tup ok
  exact .tup hh (dps_mono ok.fh (rep_dps n h rl))
theorem flats_shapedT {ds : List D} (h : flats deep ds = true) : SeqAt.shaped (.tuple (toPys ds)) = true := by
  obtain ⟨h1, h2⟩ := flats_lay deep ds h
  have h3 : (PyData.tuple (toPys ds)).depth ≤ 64 := by
    simp only [PyData.depth]
    have : deep = 12 := rfl
    omega
  unfold SeqAt.shaped
  rw [decide_eq_true h3]
  simp only [PyData.canLay0, h1]
  rfl
theorem o_in (hu : X.A.units + 65 < cLine) : OpR X (compareOp .In) (rOf X.K opIn) := by
  intro pins s σ H x y v u Qv I rx ry ⟨F, S, dx, dy, k, ok, r1, r2, t, kk⟩
  unfold opIn at t
  split at t
  · refine op_inD hu pins s σ H _ _ v u _ I rx ry ⟨_, _, repB_dp ok t.1 r1, dp_items ok t.2.1 r2, flat_shaped t.1, flats_shaped t.2.1, ?_⟩
    rw [inD_eq]
    exact kk _ F H _ (Go.refl ok) (.bl _) t.2.2
  · rename_i ys
    have hd := repB_dp ok t.1 r1
    have hs := dp_itemsT ok t.2.1 r2
    obtain ⟨as, q1⟩ := Dp.reads I _ _ v hd rx
    obtain ⟨bs, q2⟩ := Dp.reads I _ _ u hs ry
    refine SeqAt.in_tuple_reads q2 q1 (SeqAt.canLay_of_shaped (flats_shapedT t.2.1)) (SeqAt.canLay_of_shaped (flat_shaped t.1)) (room_in_shaped (flat_shaped t.1) hu) ⟨.bl _, H, I, rfl, ?_⟩
    rw [inD_eq]
    exact kk _ F H _ (Go.refl ok) (.bl _) t.2.2
  · exact t.elim
theorem o_notIn (hu : X.A.units + 65 < cLine) : OpR X (compareOp .NotIn) (rOf X.K opNotIn) := by
  intro pins s σ H x y v u Qv I rx ry ⟨F, S, dx, dy, k, ok, r1, r2, t, kk⟩
  unfold opNotIn at t
  split at t
  · refine op_notInD hu pins s σ H _ _ v u _ I rx ry ⟨_, _, repB_dp ok t.1 r1, dp_items ok t.2.1 r2, flat_shaped t.1, flats_shaped t.2.1, ?_⟩
    rw [inD_eq]
    exact kk _ F H _ (Go.refl ok) (.bl _) t.2.2
  · rename_i ys
    have hd := repB_dp ok t.1 r1
    have hs := dp_itemsT ok t.2.1 r2
    obtain ⟨as, q1⟩ := Dp.reads I _ _ v hd rx
    obtain ⟨bs, q2⟩ := Dp.reads I _ _ u hs ry
    refine SeqAt.notIn_tuple_reads q2 q1 (SeqAt.canLay_of_shaped (flats_shapedT t.2.1)) (SeqAt.canLay_of_shaped (flat_shaped t.1)) (room_in_shaped (flat_shaped t.1) hu) ⟨.bl _, H, I, rfl, ?_⟩
    rw [inD_eq]
    exact kk _ F H _ (Go.refl ok) (.bl _) t.2.2
  · exact t.elim

/-! ### subscripts -/
theorem atD_rep {K : PySem.W.Frag} {F : Hp} {vs : List V} {ds : List D} {i : Int} {k : D → Prop} (r : RepL K F vs ds) (t : atD ds i k) : ∃ v d, atI vs i = some v ∧ Rep K F v d ∧ k d := by
  unfold atD at t
  split at t
  · rename_i d e
    have l := r.length
    unfold atI
    have q : L2.ixN vs.length i = DL.ixN ds.length i := by rw [l]; rfl
    rw [q]
    cases z : DL.ixN ds.length i with
    | none => rw [z] at e; cases e
    | some j =>
      rw [z] at e
      obtain ⟨v, e1, e2⟩ := r.getD' j e
      exact ⟨v, d, e1, e2, t⟩
  · exact t.elim
theorem ix_any : IxR X (rOf X.K opIx) := by
  intro value slice pins s σ H x y v u Qv I rx ry ⟨F, S, dx, dy, k, ok, r1, r2, t, kk⟩ hs
  unfold opIx at t
  split at t
  · have e2 := r2.int; subst e2
    obtain ⟨a, vs, rfl, hx, rl⟩ := r1.list ok
    obtain ⟨w, d, e, r, t'⟩ := atD_rep rl t
    exact ix_list value slice pins s σ H _ _ v u _ I rx ry ⟨a, vs, _, w, rfl, rfl, .of hx, e, kk d F H w (Go.refl ok) r t'⟩ hs
  · have e2 := r2.int; subst e2
    obtain ⟨a, vs, rfl, hx, rl⟩ := r1.tup ok
    obtain ⟨w, d, e, r, t'⟩ := atD_rep rl t
    exact ix_tup value slice pins s σ H _ _ v u _ I rx ry ⟨a, vs, _, w, rfl, rfl, hx, e, kk d F H w (Go.refl ok) r t'⟩ hs
  · exact t.elim
theorem de_ix {a b : Expr} {Ta Tb : TE Hp} {pos : Pos} (ha : DB X a Ta) (hb : DB X b Tb) (hs : PlainIx b := by exact fun _ _ => rfl) : DE X (.Subscript a b pos) (eBin opIx Ta Tb) := pe_weak (pe_ix ix_any ha hb hs) fun _ _ _ h => op2 h

/-! ### slices -/
def liftO (K : PySem.W.Frag) (T : DL.TO Hp) : L2.TO := fun σ H Qo => ∃ B F S env Q, StR K B F S env σ H ∧ T env S Q ∧ ∀ o S' F' H', Go F S H F' S' H' → Q o S' → Qo o H'
def DO (X : Cx) (e : Option Expr) (T : DL.TO Hp) : Prop := PO X e (liftO X.K T)
theorem po_weak {e : Option Expr} {t t' : L2.TO} (h : PO X e t) (w : ∀ σ H Q, t' σ H Q → t σ H Q) : PO X e t' := ⟨fun pins s σ H Q I q => h.run pins s σ H Q I (w _ _ _ q)⟩
theorem do_none : DO X none oNone := po_weak po_none fun σ H Qo ⟨B, F, S, env, Q, st, t, k⟩ => k none S F H (Go.refl st.ok) t
theorem do_some {e : Expr} {T : TE Hp} (h : DB X e T) : DO X (some e) (oSome T) := po_weak (po_some h) fun σ H Qo ⟨B, F, S, env, Q, st, t, k⟩ =>
  ⟨B, F, S, env, _, st, t, fun d S1 F1 H1 v g1 r1 q1 => by
    cases d with
    | int i => exact ⟨i, r1.int, k (some i) S1 F1 H1 g1 q1⟩
    | _ => exact q1.elim⟩
theorem cutV_rep {K : PySem.W.Frag} {F : Hp} {vs : List V} {ds : List D} (lo hi : Option Int) (r : RepL K F vs ds) : RepL K F (cutV vs lo hi) (cutD ds lo hi) := by
  have l := r.length
  have e : ∀ n d o, HT.sIx n d o = DL.sIx n d o := fun n d o => by cases o <;> rfl
  unfold cutV cutD
  rw [l, e, e]
  exact (r.drop _).take _
theorem de_slT {a : Expr} {lo hi : Option Expr} {Ta : TE Hp} {Tl Th : DL.TO Hp} {p2 pos : Pos} (ha : DE X a Ta) (hl : DO X lo Tl) (hh : DO X hi Th) : DE X (.Subscript a (.Slice lo hi none p2) pos) (eSlT Ta Tl Th) :=
  pe_weak (pe_slice sl_tupA ha hl hh) fun σ H Qv ⟨B, F, S, env, Q, st, t, k⟩ => by
  refine ⟨B, F, S, env, _, st, t, fun d S1 F1 H1 v g1 r1 q1 => ?_⟩
  refine ⟨B, F1, S1, env, _, st.go g1, q1, fun l S2 F2 H2 g2 q2 => ?_⟩
  refine ⟨B, F2, S2, env, _, (st.go g1).go g2, q2, fun h S3 F3 H3 g3 q3 => ?_⟩
  cases d with
  | tup xs =>
    have gg := (g1.trans g2).trans g3
    have r3 := (r1.mono g2.ff).mono g3.ff
    cases r3 with
    | tup q rl =>
      refine ⟨_, _, rfl, .of (gg.ok.fh _ _ q), fun w => ?_, fun w p hp => ?_⟩
      · have e : cutD xs l h = xs := by
          have ll := rl.length
          have e' : ∀ n d o, HT.sIx n d o = DL.sIx n d o := fun n d o => by cases o <;> rfl
          unfold cutD
          rw [e', e', ll] at w
          rw [w.1, w.2, List.drop_zero, Nat.sub_zero, List.take_length]
        have q3' : Q (.tup (cutD xs l h)) S3 := q3
        rw [e] at q3'
        exact k _ _ _ _ _ gg (.tup q rl) q3'
      · obtain ⟨g, r⟩ := rep_new gg.ok hp (cutV_rep l h rl)
        exact k _ _ _ _ _ (gg.trans g) r q3
  | _ => exact q3.elim
theorem df_slL {a : Expr} {lo hi : Option Expr} {Ta : TE Hp} {Tl Th : DL.TO Hp} {p2 pos : Pos} (ha : DB X a Ta) (hl : DO X lo Tl) (hh : DO X hi Th) : DF X (.Subscript a (.Slice lo hi none p2) pos) (eSlL Ta Tl Th) :=
  pe_weak (pe_slice sl_list ha hl hh) fun σ H Qv ⟨B, F, S, env, Q, st, t, k⟩ => by
  refine ⟨B, F, S, env, _, st, t, fun d S1 F1 H1 v g1 r1 q1 => ?_⟩
  refine ⟨B, F1, S1, env, _, st.go g1, q1, fun l S2 F2 H2 g2 q2 => ?_⟩
  refine ⟨B, F2, S2, env, _, (st.go g1).go g2, q2, fun h S3 F3 H3 g3 q3 => ?_⟩
  have gg := (g1.trans g2).trans g3
  have hnew : ∀ p, H3 p = none → H p = none := fun p hp => none_of_dom gg hp
  cases d with
  | lst xs =>
    obtain ⟨a, vs, rfl, q, rl⟩ := ((r1.go g2).go g3).list gg.ok
    exact ⟨_, _, rfl, .of q, fun p hp => k _ S3 F3 _ p _ (gg.trans (Go.newH gg.ok hp _)) (hnew p hp) (gg.ok.fh.free hp) (gg.ok.sh.free hp) upd_same (.lst (cutV_rep l h rl)) q3⟩
  | scr xs =>
    rcases r1 with r1 | ⟨a', o, e, hs, hh, r⟩
    · cases (r1.mono g2.ff).mono g3.ff with
      | scr q rl => exact ⟨_, _, rfl, gg.ok.fh.seq q, fun p hp => k _ S3 F3 _ p _ (gg.trans (Go.newH gg.ok hp _)) (hnew p hp) (gg.ok.fh.free hp) (gg.ok.sh.free hp) upd_same (.lst (cutV_rep l h rl)) q3⟩
    · cases r
  | _ => exact q3.elim
theorem reverse_rep {K : PySem.W.Frag} {F : Hp} : ∀ {vs : List V} {ds : List D}, RepL K F vs ds → RepL K F vs.reverse ds.reverse
  | _, _, .nil => .nil
  | _, _, .cons h r => by rw [List.reverse_cons, List.reverse_cons]; exact (reverse_rep r).append (.one h)
theorem df_rev {a : Expr} {Ta : TE Hp} {kk : Nat} {p1 p2 p3 pos : Pos} (ha : DB X a Ta) : DF X (.Subscript a (.Slice none none (some (.UnaryOp .USub (.Constant (.int 1) kk p1) p2)) p3) pos) (eRev Ta) :=
  pe_weak (pe_revL ha) fun σ H Qv ⟨B, F, S, env, Q, st, t, k⟩ => by
  refine ⟨B, F, S, env, _, st, t, fun d S1 F1 H1 v g1 r1 q1 => ?_⟩
  cases d with
  | lst xs =>
    obtain ⟨a, vs, rfl, q, rl⟩ := r1.list g1.ok
    exact ⟨_, _, rfl, .of q, fun p hp => k _ S1 F1 _ p _ (g1.trans (Go.newH g1.ok hp _)) (none_of_dom g1 hp) (g1.ok.fh.free hp) (g1.ok.sh.free hp) upd_same (.lst (reverse_rep rl)) q1⟩
  | _ => exact q1.elim

/-! ### built-in functions -/
theorem RepLB.one {K : PySem.W.Frag} {F S H : Hp} {vs : List V} {d : D} (h : RepLB K F S H vs [d]) : ∃ v, vs = [v] ∧ RepB K F S H v d := by
  cases h with
  | cons r q => cases q; exact ⟨_, rfl, r⟩
theorem RepLB.two {K : PySem.W.Frag} {F S H : Hp} {vs : List V} {d e : D} (h : RepLB K F S H vs [d, e]) : ∃ v u, vs = [v, u] ∧ RepB K F S H v d ∧ RepB K F S H u e := by
  cases h with
  | cons r q =>
    obtain ⟨u, rfl, q'⟩ := q.one
    exact ⟨_, _, rfl, r, q'⟩
theorem f_len : CallR X (.builtin "len") (nOf X.K fnLen) := by
  intro pins s σ H xs us Qv I r ⟨F, S, ds, k, ok, rl, t, kk⟩
  unfold fnLen at t
  split at t
  · obtain ⟨v, rfl, r1⟩ := rl.one
    have e := r1.str; subst e
    exact call_len pins s σ H _ us _ I r ⟨_, _, rfl, ⟨t.1, rfl⟩, kk _ F H _ (Go.refl ok) (.int _) t.2⟩
  · obtain ⟨v, rfl, r1⟩ := rl.one
    obtain ⟨a, vs, rfl, hx, rl'⟩ := r1.list ok
    exact call_len pins s σ H _ us _ I r ⟨_, _, rfl, .inl ⟨vs, .of hx, rfl⟩, by rw [rl'.length]; exact kk _ F H _ (Go.refl ok) (.int _) t⟩
  · obtain ⟨v, rfl, r1⟩ := rl.one
    obtain ⟨a, vs, rfl, hx, rl'⟩ := r1.tup ok
    exact call_len pins s σ H _ us _ I r ⟨_, _, rfl, .inr ⟨vs, hx, rfl⟩, by rw [rl'.length]; exact kk _ F H _ (Go.refl ok) (.int _) t⟩
  · exact t.elim
theorem f_abs : CallR X (.builtin "abs") (nOf X.K fnAbs) := by
  intro pins s σ H xs us Qv I r ⟨F, S, ds, k, ok, rl, t, kk⟩
  unfold fnAbs at t
  split at t
  · obtain ⟨v, rfl, r1⟩ := rl.one
    have e := r1.int; subst e
    exact call_abs pins s σ H _ us _ I r ⟨_, rfl, kk _ F H _ (Go.refl ok) (.int _) t⟩
  · exact t.elim
theorem f_max2 (hc : X.calm = true) : CallR X (.builtin "max") (nOf X.K fnMax2) := by
  intro pins s σ H xs us Qv I r ⟨F, S, ds, k, ok, rl, t, kk⟩
  unfold fnMax2 at t
  split at t
  · obtain ⟨v, u, rfl, r1, r2⟩ := rl.two
    have e := r1.int; subst e
    have e := r2.int; subst e
    exact call_max2 hc pins s σ H _ us _ I r ⟨_, _, rfl, kk _ F H _ (Go.refl ok) (.int _) t⟩
  · exact t.elim
theorem f_min2 (hc : X.calm = true) : CallR X (.builtin "min") (nOf X.K fnMin2) := by
  intro pins s σ H xs us Qv I r ⟨F, S, ds, k, ok, rl, t, kk⟩
  unfold fnMin2 at t
  split at t
  · obtain ⟨v, u, rfl, r1, r2⟩ := rl.two
    have e := r1.int; subst e
    have e := r2.int; subst e
    exact call_min2 hc pins s σ H _ us _ I r ⟨_, _, rfl, kk _ F H _ (Go.refl ok) (.int _) t⟩
  · exact t.elim
theorem f_int : CallR X (.type "int") (nOf X.K fnInt) := by
  intro pins s σ H xs us Qv I r ⟨F, S, ds, k, ok, rl, t, kk⟩
  unfold fnInt at t
  split at t
  · obtain ⟨v, rfl, r1⟩ := rl.one
    have e := r1.int; subst e
    exact call_int1 pins s σ H _ us _ I r (.inl ⟨_, rfl, kk _ F H _ (Go.refl ok) (.int _) t⟩)
  · obtain ⟨v, rfl, r1⟩ := rl.one
    have e := r1.bl; subst e
    exact call_int1 pins s σ H _ us _ I r (.inr ⟨_, rfl, kk _ F H _ (Go.refl ok) (.int _) t⟩)
  · exact t.elim
theorem f_gcd : CallR X (.builtin "math.gcd") (nOf X.K fnGcd) := by
  intro pins s σ H xs us Qv I r ⟨F, S, ds, k, ok, rl, t, kk⟩
  unfold fnGcd at t
  split at t
  · obtain ⟨v, u, rfl, r1, r2⟩ := rl.two
    have e := r1.int; subst e
    have e := r2.int; subst e
    exact cr_gcd pins s σ H _ us _ I r ⟨_, _, rfl, kk _ F H _ (Go.refl ok) (.int _) t⟩
  · exact t.elim
theorem blsOf_rep {K : PySem.W.Frag} {F : Hp} : ∀ {ds : List D} {vs : List V} {ns : List Bool}, blsOf ds = some ns → RepL K F vs ds → vs = ns.map .bl
  | [], _, _, e, .nil => by simp [blsOf] at e; subst e; rfl
  | d :: ds, _, ns, e, .cons r q => by
    cases d with
    | bl i =>
      cases r
      simp only [blsOf, Option.map_eq_some_iff] at e
      obtain ⟨ms, e1, rfl⟩ := e
      rw [blsOf_rep e1 q]
      rfl
    | _ => simp [blsOf] at e
theorem f_sum (hc : X.calm = true) : CallR X (.builtin "sum") (nOf X.K fnSum) := by
  intro pins s σ H xs us Qv I r ⟨F, S, ds, k, ok, rl, t, kk⟩
  unfold fnSum at t
  split at t
  · split at t
    · rename_i ns e
      obtain ⟨v, rfl, r1⟩ := rl.one
      obtain ⟨a, vs, rfl, hx, rl'⟩ := r1.list ok
      have q := intsOf_rep e rl'
      subst q
      exact cr_sum hc pins s σ H _ us _ I r ⟨a, ns, rfl, .of hx, kk _ F H _ (Go.refl ok) (.int _) t⟩
    · exact t.elim
  · exact t.elim
theorem minL_mem : ∀ (xs : List Int) (m : Int), minL m xs ∈ m :: xs ∧ ∀ y ∈ m :: xs, minL m xs ≤ y
  | [], m => ⟨List.mem_cons_self, fun y h => by
    rw [List.mem_singleton.mp h]; exact Int.le_refl _⟩
  | x :: xs, m => by
    obtain ⟨h1, h2⟩ := minL_mem xs (if x < m then x else m)
    unfold minL
    refine ⟨?_, fun y h => ?_⟩
    · rcases List.mem_cons.mp h1 with e | e
      · rw [e]; split
        · exact List.mem_cons_of_mem _ List.mem_cons_self
        · exact List.mem_cons_self
      · exact List.mem_cons_of_mem _ (List.mem_cons_of_mem _ e)
    · have h3 := h2 _ List.mem_cons_self
      rcases List.mem_cons.mp h with e | e
      · rw [e]; refine Int.le_trans h3 ?_; split <;> omega
      · rcases List.mem_cons.mp e with e | e
        · rw [e]; refine Int.le_trans h3 ?_; split <;> omega
        · exact h2 y (List.mem_cons_of_mem _ e)
theorem maxL_mem : ∀ (xs : List Int) (m : Int), maxL m xs ∈ m :: xs ∧ ∀ y ∈ m :: xs, y ≤ maxL m xs
  | [], m => ⟨List.mem_cons_self, fun y h => by
    rw [List.mem_singleton.mp h]; exact Int.le_refl _⟩
  | x :: xs, m => by
    obtain ⟨h1, h2⟩ := maxL_mem xs (if x > m then x else m)
    unfold maxL
    refine ⟨?_, fun y h => ?_⟩
    · rcases List.mem_cons.mp h1 with e | e
      · rw [e]; split
        · exact List.mem_cons_of_mem _ List.mem_cons_self
        · exact List.mem_cons_self
      · exact List.mem_cons_of_mem _ (List.mem_cons_of_mem _ e)
    · have h3 := h2 _ List.mem_cons_self
      rcases List.mem_cons.mp h with e | e
      · rw [e]; refine Int.le_trans ?_ h3; split <;> omega
      · rcases List.mem_cons.mp e with e | e
        · rw [e]; refine Int.le_trans ?_ h3; split <;> omega
        · exact h2 y (List.mem_cons_of_mem _ e)
theorem f_min1 (hc : X.calm = true) : CallR X (.builtin "min") (nOf X.K fnMin1) := by
  intro pins s σ H xs us Qv I r ⟨F, S, ds, k, ok, rl, t, kk⟩
  unfold fnMin1 at t
  split at t
  · split at t
    · rename_i n ns e
      obtain ⟨v, rfl, r1⟩ := rl.one
      obtain ⟨a, vs, rfl, hx, rl'⟩ := r1.list ok
      have q := intsOf_rep e rl'
      subst q
      obtain ⟨m1, m2⟩ := minL_mem ns n
      refine cr_min hc pins s σ H _ us _ I r ⟨a, n :: ns, rfl, .of hx, by simp, fun m h1 h2 => ?_⟩
      have e : m = minL n ns := Int.le_antisymm (h2 _ m1) (m2 _ h1)
      subst e
      exact kk _ F H _ (Go.refl ok) (.int _) t
    · exact t.elim
  · exact t.elim
theorem f_max1 (hc : X.calm = true) : CallR X (.builtin "max") (nOf X.K fnMax1) := by
  intro pins s σ H xs us Qv I r ⟨F, S, ds, k, ok, rl, t, kk⟩
  unfold fnMax1 at t
  split at t
  · split at t
    · rename_i n ns e
      obtain ⟨v, rfl, r1⟩ := rl.one
      obtain ⟨a, vs, rfl, hx, rl'⟩ := r1.list ok
      have q := intsOf_rep e rl'
      subst q
      obtain ⟨m1, m2⟩ := maxL_mem ns n
      refine cr_max hc pins s σ H _ us _ I r ⟨a, n :: ns, rfl, .of hx, by simp, fun m h1 h2 => ?_⟩
      have e : m = maxL n ns := Int.le_antisymm (m2 _ h1) (h2 _ m1)
      subst e
      exact kk _ F H _ (Go.refl ok) (.int _) t
    · exact t.elim
  · exact t.elim
theorem f_all (hc : X.calm = true) : CallR X (.builtin "all") (nOf X.K fnAll) := by
  intro pins s σ H xs us Qv I r ⟨F, S, ds, k, ok, rl, t, kk⟩
  unfold fnAll at t
  split at t
  · split at t
    · rename_i ns e
      obtain ⟨v, rfl, r1⟩ := rl.one
      obtain ⟨a, vs, rfl, hx, rl'⟩ := r1.list ok
      have q := blsOf_rep e rl'
      subst q
      exact cr_all hc pins s σ H _ us _ I r ⟨a, ns, rfl, .of hx, kk _ F H _ (Go.refl ok) (.bl _) t⟩
    · exact t.elim
  · exact t.elim
theorem f_anyB (hc : X.calm = true) : CallR X (.builtin "any") (nOf X.K fnAnyB) := by
  intro pins s σ H xs us Qv I r ⟨F, S, ds, k, ok, rl, t, kk⟩
  unfold fnAnyB at t
  split at t
  · split at t
    · rename_i ns e
      obtain ⟨v, rfl, r1⟩ := rl.one
      obtain ⟨a, vs, rfl, hx, rl'⟩ := r1.list ok
      have q := blsOf_rep e rl'
      subst q
      exact cr_any hc pins s σ H _ us _ I r ⟨a, ns, rfl, .of hx, kk _ F H _ (Go.refl ok) (.bl _) t⟩
    · exact t.elim
  · exact t.elim
theorem f_tuple : CallR X (.type "tuple") (nOf X.K fnTuple) := by
  intro pins s σ H xs us Qv I r ⟨F, S, ds, k, ok, rl, t, kk⟩
  unfold fnTuple at t
  split at t
  · obtain ⟨v, rfl, r1⟩ := rl.one
    obtain ⟨a, vs, rfl, hx, rl'⟩ := r1.list ok
    refine call_tuple_of pins s σ H _ us _ I r ⟨a, vs, rfl, .inl ⟨.of hx, fun p hp => ?_⟩⟩
    obtain ⟨g, r'⟩ := rep_new ok hp rl'
    exact kk _ _ _ _ g r' t
  · rename_i ds
    obtain ⟨v, rfl, r1⟩ := rl.one
    obtain ⟨a, vs, rfl, hx, rl'⟩ := r1.tup ok
    have q : Rep X.K F (.ref a) (.tup ds) := by
      rcases r1 with r1 | ⟨a', o, e, hs, hh, r⟩
      · exact r1
      · cases r
    exact call_tuple_of pins s σ H _ us _ I r ⟨a, vs, rfl, .inr ⟨hx, kk _ F H _ (Go.refl ok) q t⟩⟩
  · exact t.elim
theorem f_list : CallR X (.type "list") (nOfF X.K fnList) := by
  intro pins s σ H xs us Qv I r ⟨F, S, ds, k, ok, rl, t, kk⟩
  unfold fnList at t
  split at t
  · obtain ⟨v, rfl, r1⟩ := rl.one
    obtain ⟨a, vs, rfl, hx, rl'⟩ := r1.list ok
    exact call_list_of pins s σ H _ us _ I r ⟨a, vs, rfl, .inl (.of hx), fun p hp => kk _ F _ p _ (Go.newH ok hp _) hp (ok.fh.free hp) (ok.sh.free hp) upd_same (.lst rl') t⟩
  · obtain ⟨v, rfl, r1⟩ := rl.one
    obtain ⟨a, vs, rfl, hx, rl'⟩ := r1.tup ok
    exact call_list_of pins s σ H _ us _ I r ⟨a, vs, rfl, .inr hx, fun p hp => kk _ F _ p _ (Go.newH ok hp _) hp (ok.fh.free hp) (ok.sh.free hp) upd_same (.lst rl') t⟩
  · exact t.elim
theorem o_rep : OpR X (binaryOp .Mult) (rOfF X.K opRep) := by
  intro pins s σ H x y v u Qv I rx ry ⟨F, S, dx, dy, k, ok, r1, r2, t, kk⟩
  unfold opRep at t
  split at t
  · obtain ⟨a, xs, rfl, hx, rx'⟩ := r1.list ok
    have e2 := r2.int; subst e2
    have rr : ∀ m : Nat, RepL X.K F (List.replicate m xs).flatten (List.replicate m _).flatten := fun m => by
      induction m with
      | zero => exact .nil
      | succ m ih => rw [List.replicate_succ, List.replicate_succ, List.flatten_cons, List.flatten_cons]; exact rx'.append ih
    refine op_rep pins s σ H _ _ v u _ I rx ry ⟨a, _, xs, rfl, rfl, hx, by omega, by omega, by rw [rx'.length]; exact t.2.2.1, fun p hp => ?_⟩
    exact kk _ F _ p _ (Go.newH ok hp _) hp (ok.fh.free hp) (ok.sh.free hp) upd_same (.lst (rr _)) t.2.2.2
  · exact t.elim
end
end DL

end
section
set_option linter.all false
set_option maxRecDepth 100000
set_option maxHeartbeats 4000000
set_option autoImplicit false
/-! The data layer: zip of two and of three sources, each a list or a tuple. -/
namespace DL
open PySem PySem.Spec PyProof.Rows L2 RZ

theorem args_object_init_4 (a b c d : Value) : argsOk "object.__init__" ⟨[a, b, c, d], []⟩ := by
  unfold argsOk; rw [signature?_of (id := "object.__init__") (n := ['_', '_', 't', 'i', 'n', 'i', '_', '_']) (o := ['t', 'c', 'e', 'j', 'b', 'o']) (by kernel_rfl) F.owner_object]; kernel_rfl
/-- a list or a tuple that is walked -/
inductive Sk where
  | l | t
def Sk.nm : Sk → String
  | .l => "list_iterator"
  | .t => "tuple_iterator"
def IsIt (k : Sk) (h : Heap) (it src : Addr) (i : Nat) : Prop := ∃ o, h.get? it = some o ∧ o.cls = .type k.nm ∧ o.data = .fields #[.ref src, .int i 0]
def IsSr (k : Sk) (h : Heap) (src : Addr) (xs : Array Value) : Prop := match k with
  | .l => h.IsList src xs
  | .t => h.IsTuple src xs
section
variable {k : Sk} {h h' : Heap} {a b it src : Addr} {i : Nat} {xs : Array Value}
theorem IsIt.ex (x : IsIt k h it src i) (hs : Heap.ExtBut b h h') (hab : it ≠ b) : IsIt k h' it src i := let ⟨o, ho, r⟩ := x; ⟨o, hs _ _ hab ho, r⟩
theorem IsIt.at (x : IsIt k h it src i) (e : ∀ o, h.get? it = some o → h'.get? it = some o) : IsIt k h' it src i := let ⟨o, ho, r⟩ := x; ⟨o, e _ ho, r⟩
theorem IsIt.lt (x : IsIt k h it src i) : it < h.objs.size := let ⟨_, ho, _⟩ := x; Heap.lt_size ho
theorem IsSr.ex (x : IsSr k h src xs) (hs : Heap.ExtBut b h h') (hab : src ≠ b) : IsSr k h' src xs := by
  cases k with
  | l => obtain ⟨o, ho, r⟩ := x; exact ⟨o, hs _ _ hab ho, r⟩
  | t => obtain ⟨o, ho, r⟩ := x; exact ⟨o, hs _ _ hab ho, r⟩
theorem IsSr.push (x : IsSr k h src xs) (o : Obj) : IsSr k (h.push o) src xs := by
  cases k with
  | l => exact Heap.IsList.push x o
  | t => exact Heap.IsTuple.push x o
theorem IsSr.lt (x : IsSr k h src xs) : src < h.objs.size := by
  cases k with
  | l => obtain ⟨o, ho, _⟩ := x; exact Heap.lt_size ho
  | t => obtain ⟨o, ho, _⟩ := x; exact Heap.lt_size ho
end
section
variable {prog : Program} {w : World} {A : Around} {E : Value → Shared → Prop} {s : Shared} {k : Sk}
theorem nx_item {it l : Addr} {i : Nat} {items : Array Value} {x : Value} {Q : Value → Shared → Prop} (hit : IsIt k s.heap it l i) (hl : IsSr k s.heap l items) (hx : items[i]? = some x)
    (hQ : ∀ h', IsIt k h' it l (i + 1) → Heap.SameBut it s.heap h' → Q x { s with heap := h' }) : wpAny (model prog w) A (Builtin.SmallTypes.nextOf (.ref it)) Q E s := by
  cases k with
  | l => exact wpAny_nextOf_list_item hit hl hx hQ
  | t => exact nextOf_tuple_item hit hl hx hQ
theorem nx_end {it l : Addr} {i : Nat} {items : Array Value} {Q : Value → Shared → Prop} (hh : A.handled = none) (hit : IsIt k s.heap it l i) (hl : IsSr k s.heap l items) (hx : items[i]? = none)
    (hE : ∀ h' e, Heap.ExtBut it s.heap h' → (∃ o, h'.get? e = some o ∧ o.cls = .type "StopIteration") → E (.ref e) { s with heap := h' }) : wpAny (model prog w) A (Builtin.SmallTypes.nextOf (.ref it)) Q E s := by
  cases k with
  | l => exact wpAny_nextOf_list_end hh hit hl hx hE
  | t => exact nextOf_tuple_end hh hit hl hx hE
theorem pyIter_sr {l : Addr} {items : Array Value} {Q : Value → Shared → Prop} (hl : IsSr k s.heap l items)
    (hQ : Q (.ref s.heap.objs.size) { s with heap := s.heap.push { cls := .type k.nm, data := .fields #[.ref l, .int 0 0] } }) : wpAny (model prog w) A (pyIter (.ref l)) Q E s := by
  cases k with
  | l => exact wpAny_pyIter_list hl hQ
  | t => exact wpAny_pyIter_tuple hl hQ
end

abbrev IsT2 (h : Heap) (T : Addr) (a1 a2 : Value) : Prop := h.get? T = some { cls := .type "tuple", data := .seq #[a1, a2] }
structure Ap2 (z TI TO i1 i2 l1 l2 : Addr) : Prop where
  TIz : TI ≠ z
  TOz : TO ≠ z
  TITO : TI ≠ TO
  i1z : i1 ≠ z
  TIi1 : TI ≠ i1
  TOi1 : TO ≠ i1
  i2z : i2 ≠ z
  TIi2 : TI ≠ i2
  TOi2 : TO ≠ i2
  i1i2 : i1 ≠ i2
  i2i1 : i2 ≠ i1
  l1z : l1 ≠ z
  l1TO : l1 ≠ TO
  l1i1 : l1 ≠ i1
  l1i2 : l1 ≠ i2
  l2z : l2 ≠ z
  l2TO : l2 ≠ TO
  l2i1 : l2 ≠ i1
  l2i2 : l2 ≠ i2
section
variable {prog : Program} {w : World} {A : Around} {E : Value → Shared → Prop} {s : Shared}
theorem upd_t2 {T : Addr} {a1 a2 x : Value} {k : Nat} {Q : Unit → Shared → Prop} (hT : IsT2 s.heap T a1 a2)
    (h : ∀ h', h'.get? T = some { cls := .type "tuple", data := .seq ((#[a1, a2] : Array Value).setIfInBounds k x) } → Heap.SameBut T s.heap h' → Q () { s with heap := h' }) :
    wpAny (model prog w) A (updateSeq T (·.setIfInBounds k x)) Q E s := by
  refine wpAny_updateSeq hT rfl (h _ ?_ (Heap.SameBut.update ..))
  rw [Heap.get?_update_self _ hT rfl]
  simp [Obj.mapSeq]
theorem znext_item2 {z TI TO i1 i2 l1 l2 : Addr} {k1 k2 : Nat} {c1 c2 : Sk} {xs1 xs2 : Array Value} {x1 x2 a1 a2 : Value} {Q : Value → Shared → Prop} (D : Ap2 z TI TO i1 i2 l1 l2)
    (hz : IsZip s.heap z TI TO .none) (hTI : IsT2 s.heap TI (.ref i1) (.ref i2)) (hTO : IsT2 s.heap TO a1 a2)
    (h1 : IsIt c1 s.heap i1 l1 k1) (h2 : IsIt c2 s.heap i2 l2 k2) (hl1 : IsSr c1 s.heap l1 xs1) (hl2 : IsSr c2 s.heap l2 xs2) (hx1 : xs1[k1]? = some x1) (hx2 : xs2[k2]? = some x2)
    (hQ : ∀ h', IsZip h' z TI TO (rawInt s.heap.objs.size) → IsT2 h' TO x1 x2 → IsIt c1 h' i1 l1 (k1 + 1) → IsIt c2 h' i2 l2 (k2 + 1) → IsT2 h' s.heap.objs.size x1 x2 → h'.objs.size = s.heap.objs.size + 1 →
      (∀ c o, c ≠ z → c ≠ TO → c ≠ i1 → c ≠ i2 → s.heap.get? c = some o → h'.get? c = some o) → Q (.ref s.heap.objs.size) { s with heap := h' }) :
    wpAny (model prog w) A (Builtin.«zip.__next__» ⟨[.ref z], []⟩) (fun fin s' => ∃ v, fin = .done (.ret v) ∧ Q v s') E s := by
  show wpAny _ _ (field (.ref z) 2 >>= _) _ _ _
  refine wpAny_bind (wpAny_field hz rfl (x := .bool false) rfl ?_)
  show wpAny _ _ (field (.ref z) 3 >>= _) _ _ _
  refine wpAny_bind (wpAny_field hz rfl (x := .ref TI) rfl ?_)
  refine wpAny_bind (wpAny_seqItems hTI rfl ?_)
  show wpAny _ _ (Builtin.SmallTypes.ownedTupleIsFree (.ref z) >>= _) _ _ _
  refine wpAny_bind ?_
  unfold Builtin.SmallTypes.ownedTupleIsFree
  refine wpAny_bind (wpAny_field hz rfl (x := .none) rfl (wpAny_pure ?_))
  simp only [if_true]
  refine wpAny_bind (wpAny_rule ?_)
  refine wpAny_bind (wpAny_field hz rfl (x := .ref TO) rfl ?_)
  refine wpAny_bind (wpAny_setField_rec hz (by simp) fun g0 hz0 s0 => ?_)
  replace hz0 : IsZip g0 z TI TO .ellipsis := hz0
  have t0 : IsT2 g0 TO a1 a2 := s0.extBut _ _ D.TOz hTO
  have kp0 : ∀ c o, c ≠ z → c ≠ TO → c ≠ i1 → c ≠ i2 → s.heap.get? c = some o → g0.get? c = some o := fun c o q1 q2 r1 r2 e => s0.extBut _ _ q1 e
  have n0 : g0.objs.size = s.heap.objs.size := s0.1
  refine wpAny_bind ?_
  simp only [List.zipIdx_cons, List.zipIdx_nil, List.forIn_cons, List.forIn_nil]
  have j1_0 : IsIt c1 g0 i1 l1 k1 := h1.ex s0.extBut D.i1z
  have u1_0 : IsSr c1 g0 l1 xs1 := hl1.ex s0.extBut D.l1z
  have j2_0 : IsIt c2 g0 i2 l2 k2 := h2.ex s0.extBut D.i2z
  have u2_0 : IsSr c2 g0 l2 xs2 := hl2.ex s0.extBut D.l2z
  refine wpAny_bind (wpAny_bind (wpAny_onRaise ?_))
  show wpAny _ _ (Builtin.SmallTypes.nextOf (.ref i1) >>= _) _ _ _
  refine wpAny_bind (nx_item j1_0 u1_0 hx1 fun g1 j1_1 s1 => wpAny_pure ?_)
  have t1 : IsT2 g1 TO a1 a2 := s1.extBut _ _ D.TOi1 t0
  refine wpAny_bind (wpAny_seqItems t1 rfl ?_)
  refine wpAny_bind (upd_t2 t1 fun g2 t2 s2 => ?_)
  replace t2 : IsT2 g2 TO x1 a2 := t2
  have u1_1 := u1_0.ex s1.extBut D.l1i1
  have j1_2 := j1_1.ex s2.extBut D.TOi1.symm
  have u1_2 := u1_1.ex s2.extBut D.l1TO
  have j2_1 := j2_0.ex s1.extBut D.i2i1
  have u2_1 := u2_0.ex s1.extBut D.l2i1
  have j2_2 := j2_1.ex s2.extBut D.TOi2.symm
  have u2_2 := u2_1.ex s2.extBut D.l2TO
  have hz2 : IsZip g2 z TI TO .ellipsis := s2.extBut _ _ D.TOz.symm (s1.extBut _ _ D.i1z.symm hz0)
  have kp2 : ∀ c o, c ≠ z → c ≠ TO → c ≠ i1 → c ≠ i2 → s.heap.get? c = some o → g2.get? c = some o := fun c o q1 q2 r1 r2 e => s2.extBut _ _ q2 (s1.extBut _ _ r1 (kp0 c o q1 q2 r1 r2 e))
  have n2 : g2.objs.size = s.heap.objs.size := by rw [s2.1, s1.1, n0]
  refine wpAny_bind (wpAny_letGo (wpAny_pure ?_))
  refine wpAny_bind (wpAny_bind (wpAny_onRaise ?_))
  show wpAny _ _ (Builtin.SmallTypes.nextOf (.ref i2) >>= _) _ _ _
  refine wpAny_bind (nx_item j2_2 u2_2 hx2 fun g3 j2_3 s3 => wpAny_pure ?_)
  have t3 : IsT2 g3 TO x1 a2 := s3.extBut _ _ D.TOi2 t2
  refine wpAny_bind (wpAny_seqItems t3 rfl ?_)
  refine wpAny_bind (upd_t2 t3 fun g4 t4 s4 => ?_)
  replace t4 : IsT2 g4 TO x1 x2 := t4
  have j1_3 := j1_2.ex s3.extBut D.i1i2
  have u1_3 := u1_2.ex s3.extBut D.l1i2
  have j1_4 := j1_3.ex s4.extBut D.TOi1.symm
  have u1_4 := u1_3.ex s4.extBut D.l1TO
  have u2_3 := u2_2.ex s3.extBut D.l2i2
  have j2_4 := j2_3.ex s4.extBut D.TOi2.symm
  have u2_4 := u2_3.ex s4.extBut D.l2TO
  have hz4 : IsZip g4 z TI TO .ellipsis := s4.extBut _ _ D.TOz.symm (s3.extBut _ _ D.i2z.symm hz2)
  have kp4 : ∀ c o, c ≠ z → c ≠ TO → c ≠ i1 → c ≠ i2 → s.heap.get? c = some o → g4.get? c = some o := fun c o q1 q2 r1 r2 e => s4.extBut _ _ q2 (s3.extBut _ _ r2 (kp2 c o q1 q2 r1 r2 e))
  have n4 : g4.objs.size = s.heap.objs.size := by rw [s4.1, s3.1, n2]
  refine wpAny_bind (wpAny_letGo (wpAny_pure (wpAny_pure ?_)))
  refine wpAny_bind (wpAny_seqItems t4 rfl ?_)
  refine wpAny_bind (wpAny_newTuple ?_)
  have hzlt : z < g4.objs.size := Heap.lt_size hz4
  show wpAny _ _ (Builtin.SmallTypes.ownedTupleHandOut (.ref z) (.ref g4.objs.size) >>= _) _ _ _
  refine wpAny_bind ?_
  unfold Builtin.SmallTypes.ownedTupleHandOut
  have hz6 : IsZip (g4.push { cls := .type "tuple", data := .seq #[x1, x2] }) z TI TO .ellipsis := Heap.get?_push_of_some _ hz4
  refine wpAny_bind (wpAny_setField_rec hz6 (by simp) fun h7 hz7 hs7 => ?_)
  replace hz7 : IsZip h7 z TI TO (rawInt g4.objs.size) := hz7
  refine wpAny_setField_rec hz7 (by simp) fun h8 hz8 hs8 => ?_
  replace hz8 : IsZip h8 z TI TO (rawInt g4.objs.size) := hz8
  have up : ∀ c o, c ≠ z → g4.get? c = some o → h8.get? c = some o := fun c o c1 e => hs8.extBut _ _ c1 (hs7.extBut _ _ c1 (Heap.get?_push_of_some _ e))
  have hT8 : IsT2 h8 g4.objs.size x1 x2 := hs8.extBut _ _ (Nat.ne_of_gt hzlt) (hs7.extBut _ _ (Nat.ne_of_gt hzlt) (Heap.get?_push_size _ rfl))
  have hz9 : h8.objs.size = g4.objs.size + 1 := by rw [hs8.1, hs7.1, Heap.size_push]
  rw [n4] at hz8 hT8 hz9
  refine wpAny_pure ⟨_, rfl, ?_⟩
  show Q (.ref g4.objs.size) _
  rw [n4]
  exact hQ h8 hz8 (up _ _ D.TOz t4) (j1_4.at fun o e => up _ o D.i1z e) (j2_4.at fun o e => up _ o D.i2z e) hT8 hz9 fun c o q1 q2 r1 r2 e => up c o q1 (kp4 c o q1 q2 r1 r2 e)
theorem znext_end2 {z TI TO i1 i2 l1 l2 : Addr} {k1 k2 : Nat} {c1 c2 : Sk} {xs1 xs2 : Array Value} {a1 a2 : Value} {Q : Fin → Shared → Prop} (hh : A.handled = none) (D : Ap2 z TI TO i1 i2 l1 l2)
    (hz : IsZip s.heap z TI TO .none) (hTI : IsT2 s.heap TI (.ref i1) (.ref i2)) (hTO : IsT2 s.heap TO a1 a2)
    (h1 : IsIt c1 s.heap i1 l1 k1) (h2 : IsIt c2 s.heap i2 l2 k2) (hl1 : IsSr c1 s.heap l1 xs1) (hl2 : IsSr c2 s.heap l2 xs2) (hend : xs1[k1]? = none ∨ xs2[k2]? = none)
    (hE : ∀ h' e, (∀ c o, c ≠ z → c ≠ TO → c ≠ i1 → c ≠ i2 → s.heap.get? c = some o → h'.get? c = some o) → (∃ o, h'.get? e = some o ∧ o.cls = .type "StopIteration") → E (.ref e) { s with heap := h' }) :
    wpAny (model prog w) A (Builtin.«zip.__next__» ⟨[.ref z], []⟩) Q E s := by
  show wpAny _ _ (field (.ref z) 2 >>= _) _ _ _
  refine wpAny_bind (wpAny_field hz rfl (x := .bool false) rfl ?_)
  show wpAny _ _ (field (.ref z) 3 >>= _) _ _ _
  refine wpAny_bind (wpAny_field hz rfl (x := .ref TI) rfl ?_)
  refine wpAny_bind (wpAny_seqItems hTI rfl ?_)
  show wpAny _ _ (Builtin.SmallTypes.ownedTupleIsFree (.ref z) >>= _) _ _ _
  refine wpAny_bind ?_
  unfold Builtin.SmallTypes.ownedTupleIsFree
  refine wpAny_bind (wpAny_field hz rfl (x := .none) rfl (wpAny_pure ?_))
  simp only [if_true]
  refine wpAny_bind (wpAny_rule ?_)
  refine wpAny_bind (wpAny_field hz rfl (x := .ref TO) rfl ?_)
  refine wpAny_bind (wpAny_setField_rec hz (by simp) fun g0 hz0 s0 => ?_)
  replace hz0 : IsZip g0 z TI TO .ellipsis := hz0
  have t0 : IsT2 g0 TO a1 a2 := s0.extBut _ _ D.TOz hTO
  have kp0 : ∀ c o, c ≠ z → c ≠ TO → c ≠ i1 → c ≠ i2 → s.heap.get? c = some o → g0.get? c = some o := fun c o q1 q2 r1 r2 e => s0.extBut _ _ q1 e
  refine wpAny_bind ?_
  simp only [List.zipIdx_cons, List.zipIdx_nil, List.forIn_cons, List.forIn_nil]
  have j1_0 : IsIt c1 g0 i1 l1 k1 := h1.ex s0.extBut D.i1z
  have u1_0 : IsSr c1 g0 l1 xs1 := hl1.ex s0.extBut D.l1z
  have j2_0 : IsIt c2 g0 i2 l2 k2 := h2.ex s0.extBut D.i2z
  have u2_0 : IsSr c2 g0 l2 xs2 := hl2.ex s0.extBut D.l2z
  refine wpAny_bind (wpAny_bind (wpAny_onRaise ?_))
  show wpAny _ _ (Builtin.SmallTypes.nextOf (.ref i1) >>= _) _ _ _
  by_cases hx : xs1[k1]? = none
  · refine wpAny_bind (nx_end hh j1_0 u1_0 hx fun h₂ e hs₂ he => ?_)
    obtain ⟨oe, hoe, hce⟩ := he
    have hz₂ : IsZip h₂ z TI TO .ellipsis := hs₂ _ _ D.i1z.symm hz0
    have hez : e ≠ z := fun x => by subst x; rw [hz₂] at hoe; cases hoe; simp at hce
    refine wpAny_setField_rec hz₂ (by simp) fun h₃ _ hs₃ => hE h₃ e (fun c o q1 q2 r1 r2 x => hs₃.extBut _ _ q1 (hs₂ _ _ r1 (kp0 c o q1 q2 r1 r2 x))) ⟨oe, hs₃.extBut _ _ hez hoe, hce⟩
  obtain ⟨x1, y1⟩ : ∃ x, xs1[k1]? = some x := Option.ne_none_iff_exists'.mp hx
  replace hend := hend.resolve_left hx
  clear hx
  refine wpAny_bind (nx_item j1_0 u1_0 y1 fun g1 j1_1 s1 => wpAny_pure ?_)
  have t1 : IsT2 g1 TO a1 a2 := s1.extBut _ _ D.TOi1 t0
  refine wpAny_bind (wpAny_seqItems t1 rfl ?_)
  refine wpAny_bind (upd_t2 t1 fun g2 t2 s2 => ?_)
  replace t2 : IsT2 g2 TO x1 a2 := t2
  have u1_1 := u1_0.ex s1.extBut D.l1i1
  have j1_2 := j1_1.ex s2.extBut D.TOi1.symm
  have u1_2 := u1_1.ex s2.extBut D.l1TO
  have j2_1 := j2_0.ex s1.extBut D.i2i1
  have u2_1 := u2_0.ex s1.extBut D.l2i1
  have j2_2 := j2_1.ex s2.extBut D.TOi2.symm
  have u2_2 := u2_1.ex s2.extBut D.l2TO
  have hz2 : IsZip g2 z TI TO .ellipsis := s2.extBut _ _ D.TOz.symm (s1.extBut _ _ D.i1z.symm hz0)
  have kp2 : ∀ c o, c ≠ z → c ≠ TO → c ≠ i1 → c ≠ i2 → s.heap.get? c = some o → g2.get? c = some o := fun c o q1 q2 r1 r2 e => s2.extBut _ _ q2 (s1.extBut _ _ r1 (kp0 c o q1 q2 r1 r2 e))
  refine wpAny_bind (wpAny_letGo (wpAny_pure ?_))
  refine wpAny_bind (wpAny_bind (wpAny_onRaise ?_))
  show wpAny _ _ (Builtin.SmallTypes.nextOf (.ref i2) >>= _) _ _ _
  have hx := hend
  refine wpAny_bind (nx_end hh j2_2 u2_2 hx fun h₂ e hs₂ he => ?_)
  obtain ⟨oe, hoe, hce⟩ := he
  have hz₂ : IsZip h₂ z TI TO .ellipsis := hs₂ _ _ D.i2z.symm hz2
  have hez : e ≠ z := fun x => by subst x; rw [hz₂] at hoe; cases hoe; simp at hce
  refine wpAny_setField_rec hz₂ (by simp) fun h₃ _ hs₃ => hE h₃ e (fun c o q1 q2 r1 r2 x => hs₃.extBut _ _ q1 (hs₂ _ _ r2 (kp2 c o q1 q2 r1 r2 x))) ⟨oe, hs₃.extBut _ _ hez hoe, hce⟩
theorem zpy_item2 {z TI TO i1 i2 l1 l2 : Addr} {k1 k2 : Nat} {c1 c2 : Sk} {xs1 xs2 : Array Value} {x1 x2 a1 a2 : Value} {Q : Option Value → Shared → Prop} (D : Ap2 z TI TO i1 i2 l1 l2)
    (hz : IsZip s.heap z TI TO .none) (hTI : IsT2 s.heap TI (.ref i1) (.ref i2)) (hTO : IsT2 s.heap TO a1 a2)
    (h1 : IsIt c1 s.heap i1 l1 k1) (h2 : IsIt c2 s.heap i2 l2 k2) (hl1 : IsSr c1 s.heap l1 xs1) (hl2 : IsSr c2 s.heap l2 xs2) (hx1 : xs1[k1]? = some x1) (hx2 : xs2[k2]? = some x2)
    (hQ : ∀ h', IsZip h' z TI TO (rawInt s.heap.objs.size) → IsT2 h' TO x1 x2 → IsIt c1 h' i1 l1 (k1 + 1) → IsIt c2 h' i2 l2 (k2 + 1) → IsT2 h' s.heap.objs.size x1 x2 → h'.objs.size = s.heap.objs.size + 1 →
      (∀ c o, c ≠ z → c ≠ TO → c ≠ i1 → c ≠ i2 → s.heap.get? c = some o → h'.get? c = some o) → Q (some (.ref s.heap.objs.size)) { s with heap := h' }) :
    wpAny (model prog w) A (pyNext (.ref z)) Q E s := by
  have hT : s.TypeIs (.ref z) "zip" := ⟨_, hz, rfl⟩
  unfold pyNext
  exact wpAny_bind (wpAny_attempt (wpAny_callSpecial?_slot (name := Str.ofString "__next__") hT F.slot_zip_next
    (wpAny_call_entry F.slot_zip_next hT F.entry_zip_next
      (znext_item2 D hz hTI hTO h1 h2 hl1 hl2 hx1 hx2 fun h' b1 b2 d1 d2 b5 b6 b7 => wpAny_pure (hQ h' b1 b2 d1 d2 b5 b6 b7)) (F.args_zip_next_1 _))))
theorem zpy_end2 {z TI TO i1 i2 l1 l2 : Addr} {k1 k2 : Nat} {c1 c2 : Sk} {xs1 xs2 : Array Value} {a1 a2 : Value} {Q : Option Value → Shared → Prop} (hh : A.handled = none) (D : Ap2 z TI TO i1 i2 l1 l2)
    (hz : IsZip s.heap z TI TO .none) (hTI : IsT2 s.heap TI (.ref i1) (.ref i2)) (hTO : IsT2 s.heap TO a1 a2)
    (h1 : IsIt c1 s.heap i1 l1 k1) (h2 : IsIt c2 s.heap i2 l2 k2) (hl1 : IsSr c1 s.heap l1 xs1) (hl2 : IsSr c2 s.heap l2 xs2) (hend : xs1[k1]? = none ∨ xs2[k2]? = none)
    (hQ : ∀ h', (∀ c o, c ≠ z → c ≠ TO → c ≠ i1 → c ≠ i2 → s.heap.get? c = some o → h'.get? c = some o) → Q none { s with heap := h' }) : wpAny (model prog w) A (pyNext (.ref z)) Q E s := by
  have hT : s.TypeIs (.ref z) "zip" := ⟨_, hz, rfl⟩
  unfold pyNext
  refine wpAny_bind (wpAny_attempt (wpAny_callSpecial?_slot (name := Str.ofString "__next__") hT F.slot_zip_next
    (wpAny_call_entry F.slot_zip_next hT F.entry_zip_next (znext_end2 hh D hz hTI hTO h1 h2 hl1 hl2 hend fun h' e hk he => ?_) (F.args_zip_next_1 _))))
  obtain ⟨o, ho, hc⟩ := he
  refine wpAny_bind (wpAny_isInstance (T := "StopIteration") (b := true) ⟨o, ho, hc⟩ isSubtype_stop ?_)
  exact wpAny_pure (hQ _ hk)
end
abbrev zH2_1 (h : Heap) (c1 : Sk) (l1 : Addr) : Heap := (h).push { cls := .type c1.nm, data := .fields #[.ref l1, .int 0 0] }
abbrev zH2_2 (h : Heap) (c1 c2 : Sk) (l1 l2 : Addr) : Heap := (zH2_1 h c1 l1).push { cls := .type c2.nm, data := .fields #[.ref l2, .int 0 0] }
abbrev zH2_3 (h : Heap) (c1 c2 : Sk) (l1 l2 : Addr) : Heap := (zH2_2 h c1 c2 l1 l2).push { cls := .type "tuple", data := .seq #[.ref h.objs.size, .ref (zH2_1 h c1 l1).objs.size] }
abbrev zH2_4 (h : Heap) (c1 c2 : Sk) (l1 l2 : Addr) : Heap := (zH2_3 h c1 c2 l1 l2).push { cls := .type "tuple", data := .seq #[.none, .none] }
abbrev zH2_5 (h : Heap) (c1 c2 : Sk) (l1 l2 : Addr) : Heap := (zH2_4 h c1 c2 l1 l2).push { cls := .type "zip", data := .fields #[.none, .bool false, .bool false, .ref (zH2_2 h c1 c2 l1 l2).objs.size, .ref (zH2_3 h c1 c2 l1 l2).objs.size] }
theorem zmeets2 (c1 c2 : Sk) (l1 l2 : Addr) (xs1 xs2 : Array Value) :
    Meets (Builtin.«zip.__new__» ⟨[.type "zip", .ref l1, .ref l2], []⟩) (fun _ R s => IsSr c1 s.heap l1 xs1 ∧ IsSr c2 s.heap l2 xs2 ∧
      R (.ok (.ret (.ref (zH2_4 s.heap c1 c2 l1 l2).objs.size))) { s with heap := zH2_5 s.heap c1 c2 l1 l2 }) :=
  .of_wp fun prog w A R s h => by
    obtain ⟨hp, g, d, tk, os⟩ := s; obtain ⟨hl1, hl2, h⟩ := h
    have hsub := sub_zip
    have hL1 : IsSr c1 (Shared.heap ⟨hp, g, d, tk, os⟩) l1 xs1 := hl1
    have hL2 : IsSr c2 (Shared.heap ⟨(hp).push { cls := .type c1.nm, data := .fields #[.ref l1, .int 0 0] }, g, d, tk, os⟩) l2 xs2 := IsSr.push hl2 _
    wp_walk using pyIter_sr hL1, pyIter_sr hL2
    exact ⟨_, rfl, h⟩
section
variable {prog : Program} {w : World} {A : Around} {E : Value → Shared → Prop} {s : Shared}
theorem zcall2 {c1 c2 : Sk} {l1 l2 : Addr} {xs1 xs2 : Array Value} {Q : Value → Shared → Prop} (hl1 : IsSr c1 s.heap l1 xs1) (hl2 : IsSr c2 s.heap l2 xs2)
    (h : ∀ h', IsZip h' (s.heap.objs.size + 4) (s.heap.objs.size + 2) (s.heap.objs.size + 3) .none → IsT2 h' (s.heap.objs.size + 2) (.ref (s.heap.objs.size)) (.ref (s.heap.objs.size + 1)) →
      IsT2 h' (s.heap.objs.size + 3) .none .none → IsIt c1 h' (s.heap.objs.size) l1 0 → IsIt c2 h' (s.heap.objs.size + 1) l2 0 → h'.objs.size = s.heap.objs.size + 5 →
      (∀ c o, s.heap.get? c = some o → h'.get? c = some o) → Q (.ref (s.heap.objs.size + 4)) { s with heap := h' }) :
    wpAny (model prog w) A (call (.type "zip") [.ref l1, .ref l2]) Q E s := by
  refine callType_new F.called_zip (by decide) (F.typeCall_zip_2 _ _) (F.newCall_zip_2 _ _) (fun obj => F.args_object_init_3 obj _ _) F.entry_zip_new
    (zmeets2 c1 c2 l1 l2 xs1 xs2) ⟨hl1, hl2, ?_⟩
  have z1 : (zH2_1 s.heap c1 l1).objs.size = s.heap.objs.size + 1 := by exact Heap.size_push ..
  have z2 : (zH2_2 s.heap c1 c2 l1 l2).objs.size = s.heap.objs.size + 2 := by rw [Heap.size_push, z1]
  have z3 : (zH2_3 s.heap c1 c2 l1 l2).objs.size = s.heap.objs.size + 3 := by rw [Heap.size_push, z2]
  have z4 : (zH2_4 s.heap c1 c2 l1 l2).objs.size = s.heap.objs.size + 4 := by rw [Heap.size_push, z3]
  have z5 : (zH2_5 s.heap c1 c2 l1 l2).objs.size = s.heap.objs.size + 5 := by rw [Heap.size_push, z4]
  have g5 : (zH2_5 s.heap c1 c2 l1 l2).get? (zH2_4 s.heap c1 c2 l1 l2).objs.size = some _ := Heap.get?_push_size _ rfl
  have g4 : (zH2_5 s.heap c1 c2 l1 l2).get? (zH2_3 s.heap c1 c2 l1 l2).objs.size = some _ := Heap.get?_push_of_some _ (Heap.get?_push_size _ rfl)
  have g3 : (zH2_5 s.heap c1 c2 l1 l2).get? (zH2_2 s.heap c1 c2 l1 l2).objs.size = some _ := Heap.get?_push_of_some _ (Heap.get?_push_of_some _ (Heap.get?_push_size _ rfl))
  have g2 : (zH2_5 s.heap c1 c2 l1 l2).get? (zH2_1 s.heap c1 l1).objs.size = some _ := Heap.get?_push_of_some _ (Heap.get?_push_of_some _ (Heap.get?_push_of_some _ (Heap.get?_push_size _ rfl)))
  have g1 : (zH2_5 s.heap c1 c2 l1 l2).get? s.heap.objs.size = some _ := Heap.get?_push_of_some _ (Heap.get?_push_of_some _ (Heap.get?_push_of_some _ (Heap.get?_push_of_some _ (Heap.get?_push_size _ rfl))))
  show _ ∧ _
  rw [z2, z3, z4] at g5
  rw [z1, z2] at g3
  rw [z3] at g4
  rw [z1] at g2
  rw [z4]
  exact ⟨⟨_, g5, rfl⟩, h _ g5 g3 g4 ⟨_, g1, rfl, rfl⟩ ⟨_, g2, rfl, rfl⟩ z5 fun c o e => Heap.get?_push_of_some _ (Heap.get?_push_of_some _ (Heap.get?_push_of_some _ (Heap.get?_push_of_some _ (Heap.get?_push_of_some _ (e)))))⟩
end
abbrev IsT3 (h : Heap) (T : Addr) (a1 a2 a3 : Value) : Prop := h.get? T = some { cls := .type "tuple", data := .seq #[a1, a2, a3] }
structure Ap3 (z TI TO i1 i2 i3 l1 l2 l3 : Addr) : Prop where
  TIz : TI ≠ z
  TOz : TO ≠ z
  TITO : TI ≠ TO
  i1z : i1 ≠ z
  TIi1 : TI ≠ i1
  TOi1 : TO ≠ i1
  i2z : i2 ≠ z
  TIi2 : TI ≠ i2
  TOi2 : TO ≠ i2
  i3z : i3 ≠ z
  TIi3 : TI ≠ i3
  TOi3 : TO ≠ i3
  i1i2 : i1 ≠ i2
  i1i3 : i1 ≠ i3
  i2i1 : i2 ≠ i1
  i2i3 : i2 ≠ i3
  i3i1 : i3 ≠ i1
  i3i2 : i3 ≠ i2
  l1z : l1 ≠ z
  l1TO : l1 ≠ TO
  l1i1 : l1 ≠ i1
  l1i2 : l1 ≠ i2
  l1i3 : l1 ≠ i3
  l2z : l2 ≠ z
  l2TO : l2 ≠ TO
  l2i1 : l2 ≠ i1
  l2i2 : l2 ≠ i2
  l2i3 : l2 ≠ i3
  l3z : l3 ≠ z
  l3TO : l3 ≠ TO
  l3i1 : l3 ≠ i1
  l3i2 : l3 ≠ i2
  l3i3 : l3 ≠ i3
section
variable {prog : Program} {w : World} {A : Around} {E : Value → Shared → Prop} {s : Shared}
theorem upd_t3 {T : Addr} {a1 a2 a3 x : Value} {k : Nat} {Q : Unit → Shared → Prop} (hT : IsT3 s.heap T a1 a2 a3)
    (h : ∀ h', h'.get? T = some { cls := .type "tuple", data := .seq ((#[a1, a2, a3] : Array Value).setIfInBounds k x) } → Heap.SameBut T s.heap h' → Q () { s with heap := h' }) :
    wpAny (model prog w) A (updateSeq T (·.setIfInBounds k x)) Q E s := by
  refine wpAny_updateSeq hT rfl (h _ ?_ (Heap.SameBut.update ..))
  rw [Heap.get?_update_self _ hT rfl]
  simp [Obj.mapSeq]
theorem znext_item3 {z TI TO i1 i2 i3 l1 l2 l3 : Addr} {k1 k2 k3 : Nat} {c1 c2 c3 : Sk} {xs1 xs2 xs3 : Array Value} {x1 x2 x3 a1 a2 a3 : Value} {Q : Value → Shared → Prop} (D : Ap3 z TI TO i1 i2 i3 l1 l2 l3)
    (hz : IsZip s.heap z TI TO .none) (hTI : IsT3 s.heap TI (.ref i1) (.ref i2) (.ref i3)) (hTO : IsT3 s.heap TO a1 a2 a3)
    (h1 : IsIt c1 s.heap i1 l1 k1) (h2 : IsIt c2 s.heap i2 l2 k2) (h3 : IsIt c3 s.heap i3 l3 k3) (hl1 : IsSr c1 s.heap l1 xs1) (hl2 : IsSr c2 s.heap l2 xs2) (hl3 : IsSr c3 s.heap l3 xs3) (hx1 : xs1[k1]? = some x1) (hx2 : xs2[k2]? = some x2) (hx3 : xs3[k3]? = some x3)
    (hQ : ∀ h', IsZip h' z TI TO (rawInt s.heap.objs.size) → IsT3 h' TO x1 x2 x3 → IsIt c1 h' i1 l1 (k1 + 1) → IsIt c2 h' i2 l2 (k2 + 1) → IsIt c3 h' i3 l3 (k3 + 1) → IsT3 h' s.heap.objs.size x1 x2 x3 → h'.objs.size = s.heap.objs.size + 1 →
      (∀ c o, c ≠ z → c ≠ TO → c ≠ i1 → c ≠ i2 → c ≠ i3 → s.heap.get? c = some o → h'.get? c = some o) → Q (.ref s.heap.objs.size) { s with heap := h' }) :
    wpAny (model prog w) A (Builtin.«zip.__next__» ⟨[.ref z], []⟩) (fun fin s' => ∃ v, fin = .done (.ret v) ∧ Q v s') E s := by
  show wpAny _ _ (field (.ref z) 2 >>= _) _ _ _
  refine wpAny_bind (wpAny_field hz rfl (x := .bool false) rfl ?_)
  show wpAny _ _ (field (.ref z) 3 >>= _) _ _ _
  refine wpAny_bind (wpAny_field hz rfl (x := .ref TI) rfl ?_)
  refine wpAny_bind (wpAny_seqItems hTI rfl ?_)
  show wpAny _ _ (Builtin.SmallTypes.ownedTupleIsFree (.ref z) >>= _) _ _ _
  refine wpAny_bind ?_
  unfold Builtin.SmallTypes.ownedTupleIsFree
  refine wpAny_bind (wpAny_field hz rfl (x := .none) rfl (wpAny_pure ?_))
  simp only [if_true]
  refine wpAny_bind (wpAny_rule ?_)
  refine wpAny_bind (wpAny_field hz rfl (x := .ref TO) rfl ?_)
  refine wpAny_bind (wpAny_setField_rec hz (by simp) fun g0 hz0 s0 => ?_)
  replace hz0 : IsZip g0 z TI TO .ellipsis := hz0
  have t0 : IsT3 g0 TO a1 a2 a3 := s0.extBut _ _ D.TOz hTO
  have kp0 : ∀ c o, c ≠ z → c ≠ TO → c ≠ i1 → c ≠ i2 → c ≠ i3 → s.heap.get? c = some o → g0.get? c = some o := fun c o q1 q2 r1 r2 r3 e => s0.extBut _ _ q1 e
  have n0 : g0.objs.size = s.heap.objs.size := s0.1
  refine wpAny_bind ?_
  simp only [List.zipIdx_cons, List.zipIdx_nil, List.forIn_cons, List.forIn_nil]
  have j1_0 : IsIt c1 g0 i1 l1 k1 := h1.ex s0.extBut D.i1z
  have u1_0 : IsSr c1 g0 l1 xs1 := hl1.ex s0.extBut D.l1z
  have j2_0 : IsIt c2 g0 i2 l2 k2 := h2.ex s0.extBut D.i2z
  have u2_0 : IsSr c2 g0 l2 xs2 := hl2.ex s0.extBut D.l2z
  have j3_0 : IsIt c3 g0 i3 l3 k3 := h3.ex s0.extBut D.i3z
  have u3_0 : IsSr c3 g0 l3 xs3 := hl3.ex s0.extBut D.l3z
  refine wpAny_bind (wpAny_bind (wpAny_onRaise ?_))
  show wpAny _ _ (Builtin.SmallTypes.nextOf (.ref i1) >>= _) _ _ _
  refine wpAny_bind (nx_item j1_0 u1_0 hx1 fun g1 j1_1 s1 => wpAny_pure ?_)
  have t1 : IsT3 g1 TO a1 a2 a3 := s1.extBut _ _ D.TOi1 t0
  refine wpAny_bind (wpAny_seqItems t1 rfl ?_)
  refine wpAny_bind (upd_t3 t1 fun g2 t2 s2 => ?_)
  replace t2 : IsT3 g2 TO x1 a2 a3 := t2
  have u1_1 := u1_0.ex s1.extBut D.l1i1
  have j1_2 := j1_1.ex s2.extBut D.TOi1.symm
  have u1_2 := u1_1.ex s2.extBut D.l1TO
  have j2_1 := j2_0.ex s1.extBut D.i2i1
  have u2_1 := u2_0.ex s1.extBut D.l2i1
  have j2_2 := j2_1.ex s2.extBut D.TOi2.symm
  have u2_2 := u2_1.ex s2.extBut D.l2TO
  have j3_1 := j3_0.ex s1.extBut D.i3i1
  have u3_1 := u3_0.ex s1.extBut D.l3i1
  have j3_2 := j3_1.ex s2.extBut D.TOi3.symm
  have u3_2 := u3_1.ex s2.extBut D.l3TO
  have hz2 : IsZip g2 z TI TO .ellipsis := s2.extBut _ _ D.TOz.symm (s1.extBut _ _ D.i1z.symm hz0)
  have kp2 : ∀ c o, c ≠ z → c ≠ TO → c ≠ i1 → c ≠ i2 → c ≠ i3 → s.heap.get? c = some o → g2.get? c = some o := fun c o q1 q2 r1 r2 r3 e => s2.extBut _ _ q2 (s1.extBut _ _ r1 (kp0 c o q1 q2 r1 r2 r3 e))
  have n2 : g2.objs.size = s.heap.objs.size := by rw [s2.1, s1.1, n0]
  refine wpAny_bind (wpAny_letGo (wpAny_pure ?_))
  refine wpAny_bind (wpAny_bind (wpAny_onRaise ?_))
  show wpAny _ _ (Builtin.SmallTypes.nextOf (.ref i2) >>= _) _ _ _
  refine wpAny_bind (nx_item j2_2 u2_2 hx2 fun g3 j2_3 s3 => wpAny_pure ?_)
  have t3 : IsT3 g3 TO x1 a2 a3 := s3.extBut _ _ D.TOi2 t2
  refine wpAny_bind (wpAny_seqItems t3 rfl ?_)
  refine wpAny_bind (upd_t3 t3 fun g4 t4 s4 => ?_)
  replace t4 : IsT3 g4 TO x1 x2 a3 := t4
  have j1_3 := j1_2.ex s3.extBut D.i1i2
  have u1_3 := u1_2.ex s3.extBut D.l1i2
  have j1_4 := j1_3.ex s4.extBut D.TOi1.symm
  have u1_4 := u1_3.ex s4.extBut D.l1TO
  have u2_3 := u2_2.ex s3.extBut D.l2i2
  have j2_4 := j2_3.ex s4.extBut D.TOi2.symm
  have u2_4 := u2_3.ex s4.extBut D.l2TO
  have j3_3 := j3_2.ex s3.extBut D.i3i2
  have u3_3 := u3_2.ex s3.extBut D.l3i2
  have j3_4 := j3_3.ex s4.extBut D.TOi3.symm
  have u3_4 := u3_3.ex s4.extBut D.l3TO
  have hz4 : IsZip g4 z TI TO .ellipsis := s4.extBut _ _ D.TOz.symm (s3.extBut _ _ D.i2z.symm hz2)
  have kp4 : ∀ c o, c ≠ z → c ≠ TO → c ≠ i1 → c ≠ i2 → c ≠ i3 → s.heap.get? c = some o → g4.get? c = some o := fun c o q1 q2 r1 r2 r3 e => s4.extBut _ _ q2 (s3.extBut _ _ r2 (kp2 c o q1 q2 r1 r2 r3 e))
  have n4 : g4.objs.size = s.heap.objs.size := by rw [s4.1, s3.1, n2]
  refine wpAny_bind (wpAny_letGo (wpAny_pure ?_))
  refine wpAny_bind (wpAny_bind (wpAny_onRaise ?_))
  show wpAny _ _ (Builtin.SmallTypes.nextOf (.ref i3) >>= _) _ _ _
  refine wpAny_bind (nx_item j3_4 u3_4 hx3 fun g5 j3_5 s5 => wpAny_pure ?_)
  have t5 : IsT3 g5 TO x1 x2 a3 := s5.extBut _ _ D.TOi3 t4
  refine wpAny_bind (wpAny_seqItems t5 rfl ?_)
  refine wpAny_bind (upd_t3 t5 fun g6 t6 s6 => ?_)
  replace t6 : IsT3 g6 TO x1 x2 x3 := t6
  have j1_5 := j1_4.ex s5.extBut D.i1i3
  have u1_5 := u1_4.ex s5.extBut D.l1i3
  have j1_6 := j1_5.ex s6.extBut D.TOi1.symm
  have u1_6 := u1_5.ex s6.extBut D.l1TO
  have j2_5 := j2_4.ex s5.extBut D.i2i3
  have u2_5 := u2_4.ex s5.extBut D.l2i3
  have j2_6 := j2_5.ex s6.extBut D.TOi2.symm
  have u2_6 := u2_5.ex s6.extBut D.l2TO
  have u3_5 := u3_4.ex s5.extBut D.l3i3
  have j3_6 := j3_5.ex s6.extBut D.TOi3.symm
  have u3_6 := u3_5.ex s6.extBut D.l3TO
  have hz6 : IsZip g6 z TI TO .ellipsis := s6.extBut _ _ D.TOz.symm (s5.extBut _ _ D.i3z.symm hz4)
  have kp6 : ∀ c o, c ≠ z → c ≠ TO → c ≠ i1 → c ≠ i2 → c ≠ i3 → s.heap.get? c = some o → g6.get? c = some o := fun c o q1 q2 r1 r2 r3 e => s6.extBut _ _ q2 (s5.extBut _ _ r3 (kp4 c o q1 q2 r1 r2 r3 e))
  have n6 : g6.objs.size = s.heap.objs.size := by rw [s6.1, s5.1, n4]
  refine wpAny_bind (wpAny_letGo (wpAny_pure (wpAny_pure ?_)))
  refine wpAny_bind (wpAny_seqItems t6 rfl ?_)
  refine wpAny_bind (wpAny_newTuple ?_)
  have hzlt : z < g6.objs.size := Heap.lt_size hz6
  show wpAny _ _ (Builtin.SmallTypes.ownedTupleHandOut (.ref z) (.ref g6.objs.size) >>= _) _ _ _
  refine wpAny_bind ?_
  unfold Builtin.SmallTypes.ownedTupleHandOut
  have hz6 : IsZip (g6.push { cls := .type "tuple", data := .seq #[x1, x2, x3] }) z TI TO .ellipsis := Heap.get?_push_of_some _ hz6
  refine wpAny_bind (wpAny_setField_rec hz6 (by simp) fun h7 hz7 hs7 => ?_)
  replace hz7 : IsZip h7 z TI TO (rawInt g6.objs.size) := hz7
  refine wpAny_setField_rec hz7 (by simp) fun h8 hz8 hs8 => ?_
  replace hz8 : IsZip h8 z TI TO (rawInt g6.objs.size) := hz8
  have up : ∀ c o, c ≠ z → g6.get? c = some o → h8.get? c = some o := fun c o c1 e => hs8.extBut _ _ c1 (hs7.extBut _ _ c1 (Heap.get?_push_of_some _ e))
  have hT8 : IsT3 h8 g6.objs.size x1 x2 x3 := hs8.extBut _ _ (Nat.ne_of_gt hzlt) (hs7.extBut _ _ (Nat.ne_of_gt hzlt) (Heap.get?_push_size _ rfl))
  have hz9 : h8.objs.size = g6.objs.size + 1 := by rw [hs8.1, hs7.1, Heap.size_push]
  rw [n6] at hz8 hT8 hz9
  refine wpAny_pure ⟨_, rfl, ?_⟩
  show Q (.ref g6.objs.size) _
  rw [n6]
  exact hQ h8 hz8 (up _ _ D.TOz t6) (j1_6.at fun o e => up _ o D.i1z e) (j2_6.at fun o e => up _ o D.i2z e) (j3_6.at fun o e => up _ o D.i3z e) hT8 hz9 fun c o q1 q2 r1 r2 r3 e => up c o q1 (kp6 c o q1 q2 r1 r2 r3 e)
theorem znext_end3 {z TI TO i1 i2 i3 l1 l2 l3 : Addr} {k1 k2 k3 : Nat} {c1 c2 c3 : Sk} {xs1 xs2 xs3 : Array Value} {a1 a2 a3 : Value} {Q : Fin → Shared → Prop} (hh : A.handled = none) (D : Ap3 z TI TO i1 i2 i3 l1 l2 l3)
    (hz : IsZip s.heap z TI TO .none) (hTI : IsT3 s.heap TI (.ref i1) (.ref i2) (.ref i3)) (hTO : IsT3 s.heap TO a1 a2 a3)
    (h1 : IsIt c1 s.heap i1 l1 k1) (h2 : IsIt c2 s.heap i2 l2 k2) (h3 : IsIt c3 s.heap i3 l3 k3) (hl1 : IsSr c1 s.heap l1 xs1) (hl2 : IsSr c2 s.heap l2 xs2) (hl3 : IsSr c3 s.heap l3 xs3) (hend : xs1[k1]? = none ∨ xs2[k2]? = none ∨ xs3[k3]? = none)
    (hE : ∀ h' e, (∀ c o, c ≠ z → c ≠ TO → c ≠ i1 → c ≠ i2 → c ≠ i3 → s.heap.get? c = some o → h'.get? c = some o) → (∃ o, h'.get? e = some o ∧ o.cls = .type "StopIteration") → E (.ref e) { s with heap := h' }) :
    wpAny (model prog w) A (Builtin.«zip.__next__» ⟨[.ref z], []⟩) Q E s := by
  show wpAny _ _ (field (.ref z) 2 >>= _) _ _ _
  refine wpAny_bind (wpAny_field hz rfl (x := .bool false) rfl ?_)
  show wpAny _ _ (field (.ref z) 3 >>= _) _ _ _
  refine wpAny_bind (wpAny_field hz rfl (x := .ref TI) rfl ?_)
  refine wpAny_bind (wpAny_seqItems hTI rfl ?_)
  show wpAny _ _ (Builtin.SmallTypes.ownedTupleIsFree (.ref z) >>= _) _ _ _
  refine wpAny_bind ?_
  unfold Builtin.SmallTypes.ownedTupleIsFree
  refine wpAny_bind (wpAny_field hz rfl (x := .none) rfl (wpAny_pure ?_))
  simp only [if_true]
  refine wpAny_bind (wpAny_rule ?_)
  refine wpAny_bind (wpAny_field hz rfl (x := .ref TO) rfl ?_)
  refine wpAny_bind (wpAny_setField_rec hz (by simp) fun g0 hz0 s0 => ?_)
  replace hz0 : IsZip g0 z TI TO .ellipsis := hz0
  have t0 : IsT3 g0 TO a1 a2 a3 := s0.extBut _ _ D.TOz hTO
  have kp0 : ∀ c o, c ≠ z → c ≠ TO → c ≠ i1 → c ≠ i2 → c ≠ i3 → s.heap.get? c = some o → g0.get? c = some o := fun c o q1 q2 r1 r2 r3 e => s0.extBut _ _ q1 e
  refine wpAny_bind ?_
  simp only [List.zipIdx_cons, List.zipIdx_nil, List.forIn_cons, List.forIn_nil]
  have j1_0 : IsIt c1 g0 i1 l1 k1 := h1.ex s0.extBut D.i1z
  have u1_0 : IsSr c1 g0 l1 xs1 := hl1.ex s0.extBut D.l1z
  have j2_0 : IsIt c2 g0 i2 l2 k2 := h2.ex s0.extBut D.i2z
  have u2_0 : IsSr c2 g0 l2 xs2 := hl2.ex s0.extBut D.l2z
  have j3_0 : IsIt c3 g0 i3 l3 k3 := h3.ex s0.extBut D.i3z
  have u3_0 : IsSr c3 g0 l3 xs3 := hl3.ex s0.extBut D.l3z
  refine wpAny_bind (wpAny_bind (wpAny_onRaise ?_))
  show wpAny _ _ (Builtin.SmallTypes.nextOf (.ref i1) >>= _) _ _ _
  by_cases hx : xs1[k1]? = none
  · refine wpAny_bind (nx_end hh j1_0 u1_0 hx fun h₂ e hs₂ he => ?_)
    obtain ⟨oe, hoe, hce⟩ := he
    have hz₂ : IsZip h₂ z TI TO .ellipsis := hs₂ _ _ D.i1z.symm hz0
    have hez : e ≠ z := fun x => by subst x; rw [hz₂] at hoe; cases hoe; simp at hce
    refine wpAny_setField_rec hz₂ (by simp) fun h₃ _ hs₃ => hE h₃ e (fun c o q1 q2 r1 r2 r3 x => hs₃.extBut _ _ q1 (hs₂ _ _ r1 (kp0 c o q1 q2 r1 r2 r3 x))) ⟨oe, hs₃.extBut _ _ hez hoe, hce⟩
  obtain ⟨x1, y1⟩ : ∃ x, xs1[k1]? = some x := Option.ne_none_iff_exists'.mp hx
  replace hend := hend.resolve_left hx
  clear hx
  refine wpAny_bind (nx_item j1_0 u1_0 y1 fun g1 j1_1 s1 => wpAny_pure ?_)
  have t1 : IsT3 g1 TO a1 a2 a3 := s1.extBut _ _ D.TOi1 t0
  refine wpAny_bind (wpAny_seqItems t1 rfl ?_)
  refine wpAny_bind (upd_t3 t1 fun g2 t2 s2 => ?_)
  replace t2 : IsT3 g2 TO x1 a2 a3 := t2
  have u1_1 := u1_0.ex s1.extBut D.l1i1
  have j1_2 := j1_1.ex s2.extBut D.TOi1.symm
  have u1_2 := u1_1.ex s2.extBut D.l1TO
  have j2_1 := j2_0.ex s1.extBut D.i2i1
  have u2_1 := u2_0.ex s1.extBut D.l2i1
  have j2_2 := j2_1.ex s2.extBut D.TOi2.symm
  have u2_2 := u2_1.ex s2.extBut D.l2TO
  have j3_1 := j3_0.ex s1.extBut D.i3i1
  have u3_1 := u3_0.ex s1.extBut D.l3i1
  have j3_2 := j3_1.ex s2.extBut D.TOi3.symm
  have u3_2 := u3_1.ex s2.extBut D.l3TO
  have hz2 : IsZip g2 z TI TO .ellipsis := s2.extBut _ _ D.TOz.symm (s1.extBut _ _ D.i1z.symm hz0)
  have kp2 : ∀ c o, c ≠ z → c ≠ TO → c ≠ i1 → c ≠ i2 → c ≠ i3 → s.heap.get? c = some o → g2.get? c = some o := fun c o q1 q2 r1 r2 r3 e => s2.extBut _ _ q2 (s1.extBut _ _ r1 (kp0 c o q1 q2 r1 r2 r3 e))
  refine wpAny_bind (wpAny_letGo (wpAny_pure ?_))
  refine wpAny_bind (wpAny_bind (wpAny_onRaise ?_))
  show wpAny _ _ (Builtin.SmallTypes.nextOf (.ref i2) >>= _) _ _ _
  by_cases hx : xs2[k2]? = none
  · refine wpAny_bind (nx_end hh j2_2 u2_2 hx fun h₂ e hs₂ he => ?_)
    obtain ⟨oe, hoe, hce⟩ := he
    have hz₂ : IsZip h₂ z TI TO .ellipsis := hs₂ _ _ D.i2z.symm hz2
    have hez : e ≠ z := fun x => by subst x; rw [hz₂] at hoe; cases hoe; simp at hce
    refine wpAny_setField_rec hz₂ (by simp) fun h₃ _ hs₃ => hE h₃ e (fun c o q1 q2 r1 r2 r3 x => hs₃.extBut _ _ q1 (hs₂ _ _ r2 (kp2 c o q1 q2 r1 r2 r3 x))) ⟨oe, hs₃.extBut _ _ hez hoe, hce⟩
  obtain ⟨x2, y2⟩ : ∃ x, xs2[k2]? = some x := Option.ne_none_iff_exists'.mp hx
  replace hend := hend.resolve_left hx
  clear hx
  refine wpAny_bind (nx_item j2_2 u2_2 y2 fun g3 j2_3 s3 => wpAny_pure ?_)
  have t3 : IsT3 g3 TO x1 a2 a3 := s3.extBut _ _ D.TOi2 t2
  refine wpAny_bind (wpAny_seqItems t3 rfl ?_)
  refine wpAny_bind (upd_t3 t3 fun g4 t4 s4 => ?_)
  replace t4 : IsT3 g4 TO x1 x2 a3 := t4
  have j1_3 := j1_2.ex s3.extBut D.i1i2
  have u1_3 := u1_2.ex s3.extBut D.l1i2
  have j1_4 := j1_3.ex s4.extBut D.TOi1.symm
  have u1_4 := u1_3.ex s4.extBut D.l1TO
  have u2_3 := u2_2.ex s3.extBut D.l2i2
  have j2_4 := j2_3.ex s4.extBut D.TOi2.symm
  have u2_4 := u2_3.ex s4.extBut D.l2TO
  have j3_3 := j3_2.ex s3.extBut D.i3i2
  have u3_3 := u3_2.ex s3.extBut D.l3i2
  have j3_4 := j3_3.ex s4.extBut D.TOi3.symm
  have u3_4 := u3_3.ex s4.extBut D.l3TO
  have hz4 : IsZip g4 z TI TO .ellipsis := s4.extBut _ _ D.TOz.symm (s3.extBut _ _ D.i2z.symm hz2)
  have kp4 : ∀ c o, c ≠ z → c ≠ TO → c ≠ i1 → c ≠ i2 → c ≠ i3 → s.heap.get? c = some o → g4.get? c = some o := fun c o q1 q2 r1 r2 r3 e => s4.extBut _ _ q2 (s3.extBut _ _ r2 (kp2 c o q1 q2 r1 r2 r3 e))
  refine wpAny_bind (wpAny_letGo (wpAny_pure ?_))
  refine wpAny_bind (wpAny_bind (wpAny_onRaise ?_))
  show wpAny _ _ (Builtin.SmallTypes.nextOf (.ref i3) >>= _) _ _ _
  have hx := hend
  refine wpAny_bind (nx_end hh j3_4 u3_4 hx fun h₂ e hs₂ he => ?_)
  obtain ⟨oe, hoe, hce⟩ := he
  have hz₂ : IsZip h₂ z TI TO .ellipsis := hs₂ _ _ D.i3z.symm hz4
  have hez : e ≠ z := fun x => by subst x; rw [hz₂] at hoe; cases hoe; simp at hce
  refine wpAny_setField_rec hz₂ (by simp) fun h₃ _ hs₃ => hE h₃ e (fun c o q1 q2 r1 r2 r3 x => hs₃.extBut _ _ q1 (hs₂ _ _ r3 (kp4 c o q1 q2 r1 r2 r3 x))) ⟨oe, hs₃.extBut _ _ hez hoe, hce⟩
theorem zpy_item3 {z TI TO i1 i2 i3 l1 l2 l3 : Addr} {k1 k2 k3 : Nat} {c1 c2 c3 : Sk} {xs1 xs2 xs3 : Array Value} {x1 x2 x3 a1 a2 a3 : Value} {Q : Option Value → Shared → Prop} (D : Ap3 z TI TO i1 i2 i3 l1 l2 l3)
    (hz : IsZip s.heap z TI TO .none) (hTI : IsT3 s.heap TI (.ref i1) (.ref i2) (.ref i3)) (hTO : IsT3 s.heap TO a1 a2 a3)
    (h1 : IsIt c1 s.heap i1 l1 k1) (h2 : IsIt c2 s.heap i2 l2 k2) (h3 : IsIt c3 s.heap i3 l3 k3) (hl1 : IsSr c1 s.heap l1 xs1) (hl2 : IsSr c2 s.heap l2 xs2) (hl3 : IsSr c3 s.heap l3 xs3) (hx1 : xs1[k1]? = some x1) (hx2 : xs2[k2]? = some x2) (hx3 : xs3[k3]? = some x3)
    (hQ : ∀ h', IsZip h' z TI TO (rawInt s.heap.objs.size) → IsT3 h' TO x1 x2 x3 → IsIt c1 h' i1 l1 (k1 + 1) → IsIt c2 h' i2 l2 (k2 + 1) → IsIt c3 h' i3 l3 (k3 + 1) → IsT3 h' s.heap.objs.size x1 x2 x3 → h'.objs.size = s.heap.objs.size + 1 →
      (∀ c o, c ≠ z → c ≠ TO → c ≠ i1 → c ≠ i2 → c ≠ i3 → s.heap.get? c = some o → h'.get? c = some o) → Q (some (.ref s.heap.objs.size)) { s with heap := h' }) :
    wpAny (model prog w) A (pyNext (.ref z)) Q E s := by
  have hT : s.TypeIs (.ref z) "zip" := ⟨_, hz, rfl⟩
  unfold pyNext
  exact wpAny_bind (wpAny_attempt (wpAny_callSpecial?_slot (name := Str.ofString "__next__") hT F.slot_zip_next
    (wpAny_call_entry F.slot_zip_next hT F.entry_zip_next
      (znext_item3 D hz hTI hTO h1 h2 h3 hl1 hl2 hl3 hx1 hx2 hx3 fun h' b1 b2 d1 d2 d3 b5 b6 b7 => wpAny_pure (hQ h' b1 b2 d1 d2 d3 b5 b6 b7)) (F.args_zip_next_1 _))))
theorem zpy_end3 {z TI TO i1 i2 i3 l1 l2 l3 : Addr} {k1 k2 k3 : Nat} {c1 c2 c3 : Sk} {xs1 xs2 xs3 : Array Value} {a1 a2 a3 : Value} {Q : Option Value → Shared → Prop} (hh : A.handled = none) (D : Ap3 z TI TO i1 i2 i3 l1 l2 l3)
    (hz : IsZip s.heap z TI TO .none) (hTI : IsT3 s.heap TI (.ref i1) (.ref i2) (.ref i3)) (hTO : IsT3 s.heap TO a1 a2 a3)
    (h1 : IsIt c1 s.heap i1 l1 k1) (h2 : IsIt c2 s.heap i2 l2 k2) (h3 : IsIt c3 s.heap i3 l3 k3) (hl1 : IsSr c1 s.heap l1 xs1) (hl2 : IsSr c2 s.heap l2 xs2) (hl3 : IsSr c3 s.heap l3 xs3) (hend : xs1[k1]? = none ∨ xs2[k2]? = none ∨ xs3[k3]? = none)
    (hQ : ∀ h', (∀ c o, c ≠ z → c ≠ TO → c ≠ i1 → c ≠ i2 → c ≠ i3 → s.heap.get? c = some o → h'.get? c = some o) → Q none { s with heap := h' }) : wpAny (model prog w) A (pyNext (.ref z)) Q E s := by
  have hT : s.TypeIs (.ref z) "zip" := ⟨_, hz, rfl⟩
  unfold pyNext
  refine wpAny_bind (wpAny_attempt (wpAny_callSpecial?_slot (name := Str.ofString "__next__") hT F.slot_zip_next
    (wpAny_call_entry F.slot_zip_next hT F.entry_zip_next (znext_end3 hh D hz hTI hTO h1 h2 h3 hl1 hl2 hl3 hend fun h' e hk he => ?_) (F.args_zip_next_1 _))))
  obtain ⟨o, ho, hc⟩ := he
  refine wpAny_bind (wpAny_isInstance (T := "StopIteration") (b := true) ⟨o, ho, hc⟩ isSubtype_stop ?_)
  exact wpAny_pure (hQ _ hk)
end
abbrev zH3_1 (h : Heap) (c1 : Sk) (l1 : Addr) : Heap := (h).push { cls := .type c1.nm, data := .fields #[.ref l1, .int 0 0] }
abbrev zH3_2 (h : Heap) (c1 c2 : Sk) (l1 l2 : Addr) : Heap := (zH3_1 h c1 l1).push { cls := .type c2.nm, data := .fields #[.ref l2, .int 0 0] }
abbrev zH3_3 (h : Heap) (c1 c2 c3 : Sk) (l1 l2 l3 : Addr) : Heap := (zH3_2 h c1 c2 l1 l2).push { cls := .type c3.nm, data := .fields #[.ref l3, .int 0 0] }
abbrev zH3_4 (h : Heap) (c1 c2 c3 : Sk) (l1 l2 l3 : Addr) : Heap := (zH3_3 h c1 c2 c3 l1 l2 l3).push { cls := .type "tuple", data := .seq #[.ref h.objs.size, .ref (zH3_1 h c1 l1).objs.size, .ref (zH3_2 h c1 c2 l1 l2).objs.size] }
abbrev zH3_5 (h : Heap) (c1 c2 c3 : Sk) (l1 l2 l3 : Addr) : Heap := (zH3_4 h c1 c2 c3 l1 l2 l3).push { cls := .type "tuple", data := .seq #[.none, .none, .none] }
abbrev zH3_6 (h : Heap) (c1 c2 c3 : Sk) (l1 l2 l3 : Addr) : Heap := (zH3_5 h c1 c2 c3 l1 l2 l3).push { cls := .type "zip", data := .fields #[.none, .bool false, .bool false, .ref (zH3_3 h c1 c2 c3 l1 l2 l3).objs.size, .ref (zH3_4 h c1 c2 c3 l1 l2 l3).objs.size] }
theorem zmeets3 (c1 c2 c3 : Sk) (l1 l2 l3 : Addr) (xs1 xs2 xs3 : Array Value) :
    Meets (Builtin.«zip.__new__» ⟨[.type "zip", .ref l1, .ref l2, .ref l3], []⟩) (fun _ R s => IsSr c1 s.heap l1 xs1 ∧ IsSr c2 s.heap l2 xs2 ∧ IsSr c3 s.heap l3 xs3 ∧
      R (.ok (.ret (.ref (zH3_5 s.heap c1 c2 c3 l1 l2 l3).objs.size))) { s with heap := zH3_6 s.heap c1 c2 c3 l1 l2 l3 }) :=
  .of_wp fun prog w A R s h => by
    obtain ⟨hp, g, d, tk, os⟩ := s; obtain ⟨hl1, hl2, hl3, h⟩ := h
    have hsub := sub_zip
    have hL1 : IsSr c1 (Shared.heap ⟨hp, g, d, tk, os⟩) l1 xs1 := hl1
    have hL2 : IsSr c2 (Shared.heap ⟨(hp).push { cls := .type c1.nm, data := .fields #[.ref l1, .int 0 0] }, g, d, tk, os⟩) l2 xs2 := IsSr.push hl2 _
    have hL3 : IsSr c3 (Shared.heap ⟨((hp).push { cls := .type c1.nm, data := .fields #[.ref l1, .int 0 0] }).push { cls := .type c2.nm, data := .fields #[.ref l2, .int 0 0] }, g, d, tk, os⟩) l3 xs3 := IsSr.push (IsSr.push hl3 _) _
    wp_walk using pyIter_sr hL1, pyIter_sr hL2, pyIter_sr hL3
    exact ⟨_, rfl, h⟩
section
variable {prog : Program} {w : World} {A : Around} {E : Value → Shared → Prop} {s : Shared}
theorem zcall3 {c1 c2 c3 : Sk} {l1 l2 l3 : Addr} {xs1 xs2 xs3 : Array Value} {Q : Value → Shared → Prop} (hl1 : IsSr c1 s.heap l1 xs1) (hl2 : IsSr c2 s.heap l2 xs2) (hl3 : IsSr c3 s.heap l3 xs3)
    (h : ∀ h', IsZip h' (s.heap.objs.size + 5) (s.heap.objs.size + 3) (s.heap.objs.size + 4) .none → IsT3 h' (s.heap.objs.size + 3) (.ref (s.heap.objs.size)) (.ref (s.heap.objs.size + 1)) (.ref (s.heap.objs.size + 2)) →
      IsT3 h' (s.heap.objs.size + 4) .none .none .none → IsIt c1 h' (s.heap.objs.size) l1 0 → IsIt c2 h' (s.heap.objs.size + 1) l2 0 → IsIt c3 h' (s.heap.objs.size + 2) l3 0 → h'.objs.size = s.heap.objs.size + 6 →
      (∀ c o, s.heap.get? c = some o → h'.get? c = some o) → Q (.ref (s.heap.objs.size + 5)) { s with heap := h' }) :
    wpAny (model prog w) A (call (.type "zip") [.ref l1, .ref l2, .ref l3]) Q E s := by
  refine callType_new F.called_zip (by decide) (by kernel_rfl) (by kernel_rfl) (fun obj => args_object_init_4 obj _ _ _) F.entry_zip_new
    (zmeets3 c1 c2 c3 l1 l2 l3 xs1 xs2 xs3) ⟨hl1, hl2, hl3, ?_⟩
  have z1 : (zH3_1 s.heap c1 l1).objs.size = s.heap.objs.size + 1 := by exact Heap.size_push ..
  have z2 : (zH3_2 s.heap c1 c2 l1 l2).objs.size = s.heap.objs.size + 2 := by rw [Heap.size_push, z1]
  have z3 : (zH3_3 s.heap c1 c2 c3 l1 l2 l3).objs.size = s.heap.objs.size + 3 := by rw [Heap.size_push, z2]
  have z4 : (zH3_4 s.heap c1 c2 c3 l1 l2 l3).objs.size = s.heap.objs.size + 4 := by rw [Heap.size_push, z3]
  have z5 : (zH3_5 s.heap c1 c2 c3 l1 l2 l3).objs.size = s.heap.objs.size + 5 := by rw [Heap.size_push, z4]
  have z6 : (zH3_6 s.heap c1 c2 c3 l1 l2 l3).objs.size = s.heap.objs.size + 6 := by rw [Heap.size_push, z5]
  have g6 : (zH3_6 s.heap c1 c2 c3 l1 l2 l3).get? (zH3_5 s.heap c1 c2 c3 l1 l2 l3).objs.size = some _ := Heap.get?_push_size _ rfl
  have g5 : (zH3_6 s.heap c1 c2 c3 l1 l2 l3).get? (zH3_4 s.heap c1 c2 c3 l1 l2 l3).objs.size = some _ := Heap.get?_push_of_some _ (Heap.get?_push_size _ rfl)
  have g4 : (zH3_6 s.heap c1 c2 c3 l1 l2 l3).get? (zH3_3 s.heap c1 c2 c3 l1 l2 l3).objs.size = some _ := Heap.get?_push_of_some _ (Heap.get?_push_of_some _ (Heap.get?_push_size _ rfl))
  have g3 : (zH3_6 s.heap c1 c2 c3 l1 l2 l3).get? (zH3_2 s.heap c1 c2 l1 l2).objs.size = some _ := Heap.get?_push_of_some _ (Heap.get?_push_of_some _ (Heap.get?_push_of_some _ (Heap.get?_push_size _ rfl)))
  have g2 : (zH3_6 s.heap c1 c2 c3 l1 l2 l3).get? (zH3_1 s.heap c1 l1).objs.size = some _ := Heap.get?_push_of_some _ (Heap.get?_push_of_some _ (Heap.get?_push_of_some _ (Heap.get?_push_of_some _ (Heap.get?_push_size _ rfl))))
  have g1 : (zH3_6 s.heap c1 c2 c3 l1 l2 l3).get? s.heap.objs.size = some _ := Heap.get?_push_of_some _ (Heap.get?_push_of_some _ (Heap.get?_push_of_some _ (Heap.get?_push_of_some _ (Heap.get?_push_of_some _ (Heap.get?_push_size _ rfl)))))
  show _ ∧ _
  rw [z3, z4, z5] at g6
  rw [z1, z2, z3] at g4
  rw [z4] at g5
  rw [z1] at g2
  rw [z2] at g3
  rw [z5]
  exact ⟨⟨_, g6, rfl⟩, h _ g6 g4 g5 ⟨_, g1, rfl, rfl⟩ ⟨_, g2, rfl, rfl⟩ ⟨_, g3, rfl, rfl⟩ z6 fun c o e => Heap.get?_push_of_some _ (Heap.get?_push_of_some _ (Heap.get?_push_of_some _ (Heap.get?_push_of_some _ (Heap.get?_push_of_some _ (Heap.get?_push_of_some _ (e))))))⟩
end
end DL

end
section
set_option linter.all false
set_option maxRecDepth 100000
set_option maxHeartbeats 4000000
set_option autoImplicit false
/-! The data layer: what a for or a comprehension walks. -/
namespace DL
open PySem PySem.Spec PyProof.Rows L2 RZ

def Sq (k : Sk) (K : PySem.W.Frag) (H : Hp) (a : Addr) (xs : List V) : Prop := match k with
  | .l => SqL K H a xs
  | .t => SqT K H a xs
theorem Sq.mono {k : Sk} {K : PySem.W.Frag} {H H' : Hp} {a : Addr} {xs : List V} (e : Same H H') (h : Sq k K H a xs) : Sq k K H' a xs := by
  cases k with
  | l => exact e.seq h
  | t => exact sqT_mono e h
section
variable {X : Cx} {pins : List (Addr × Obj)} {σ : L2.St} {H : Hp} {s : Shared} {k : Sk} {a : Addr} {xs ys : List V}
theorem inv_sr (I : Inv X pins σ H s) (h : Sq k X.K H a xs) : ∃ its : List Value, Vals xs its ∧ IsSr k s.heap a its.toArray ∧ xs.length ≤ sizeLine := by
  cases k with
  | l => obtain ⟨its, r, p, z⟩ := I.list h; exact ⟨its, r, p.isList, z⟩
  | t => obtain ⟨its, r, p, z⟩ := I.tuple h; exact ⟨its, r, p, z⟩
theorem inv_inj (I : Inv X pins σ H s) (h : Sq k X.K H a xs) (h' : Sq k X.K H a ys) : xs = ys := by
  cases k with
  | l => exact I.list_inj h h'
  | t => exact I.tuple_inj h h'
end
/-- one source -/
def ItS (k : Sk) (K : PySem.W.Frag) (a : Addr) : It := match k with
  | .l => Itl K a
  | .t => Itt K a
def iSq (K : PySem.W.Frag) (tl : L2.TE) : L2.TI := fun σ H R => tl σ H fun x H1 => ∃ k a xs, x = .ref a ∧ Sq k K H1 a xs ∧ R (ItS k K a) H1
theorem pi_sq {X : Cx} {tg l : Expr} {tl : L2.TE} (hl : PE X l tl) : PI X tg l (iSq X.K tl) := by
  refine ⟨fun pins s σ H R I h => ?_⟩
  refine thn (hl.run pins s σ H _ I h) fun v s1 ⟨x, H1, I1, r1, k, a, xs, e, hq, q⟩ => ?_
  subst e
  cases r1
  have fp : ∀ b ∈ [s1.heap.objs.size], FpOk X pins H1 b := fun b hb => by
    rw [List.mem_singleton.mp hb]
    exact I1.fpOk (Nat.le_refl _) (I1.hok.fresh (Nat.le_refl _))
  have kp : ∀ o : Obj, Inv X pins σ H1 { s1 with heap := s1.heap.push o } := fun o => I1.kept (t' := s1.toks) fun b o' e => Heap.get?_push_of_some _ e
  cases k with
  | l =>
    obtain ⟨its, rv, p, hz⟩ := I1.list hq
    exact wpAny_pyIter_list p.isList ⟨_, [s1.heap.objs.size], _, _, H1, rfl, kp _, turn_list a _, ⟨_, Heap.get?_push_size _ rfl, rfl, rfl⟩, fp, q⟩
  | t =>
    obtain ⟨its, rv, p, hz⟩ := I1.tuple hq
    exact wpAny_pyIter_tuple (show s1.heap.IsTuple a its.toArray from p) ⟨_, [s1.heap.objs.size], _, _, H1, rfl, kp _, turn_tuple a _, ⟨_, Heap.get?_push_size _ rfl, rfl, rfl⟩, fp, q⟩

/-- 2 sources side by side -/
def ItZ2 (K : PySem.W.Frag) (c1 c2 : Sk) (l1 l2 : Addr) : It :=
  ⟨fun i H => ∃ (xs1 xs2 : List V) (x1 x2 : V), Sq c1 K H l1 xs1 ∧ Sq c2 K H l2 xs2 ∧ xs1[i]? = some x1 ∧ xs2[i]? = some x2,
    fun i H v H' => ∃ T x1 x2, v = .ref T ∧ H T = none ∧ H' = upd H T (.tup [x1, x2]) ∧ (∀ xs, Sq c1 K H l1 xs → xs[i]? = some x1) ∧ (∀ xs, Sq c2 K H l2 xs → xs[i]? = some x2),
    fun i H => ∃ xs1 xs2 : List V, Sq c1 K H l1 xs1 ∧ Sq c2 K H l2 xs2 ∧ (xs1.length ≤ i ∨ xs2.length ≤ i)⟩
theorem turn_z2 {P : Program} {w : World} {K : PySem.W.Frag} {elts : List Expr} {kk : Nat} {tpos : Pos} {c1 c2 : Sk} {l1 l2 z TI TO i1 i2 : Addr} (D : Ap2 z TI TO i1 i2 l1 l2) :
    Turn P w K (.Tuple elts kk tpos) (ItZ2 K c1 c2 l1 l2) [z, TI, TO, i1, i2] z (fun i h => IsZip h z TI TO .none ∧ IsT2 h TI (.ref i1) (.ref i2) ∧ (∃ x1 x2, IsT2 h TO x1 x2) ∧ IsIt c1 h i1 l1 i ∧ IsIt c2 h i2 l2 i) where
  mem := List.mem_cons_self
  obj := fun i h st c hc => by
    obtain ⟨hz, hTI, ⟨x1, x2, hTO⟩, ⟨o1, e1, _, d1⟩, ⟨o2, e2, _, d2⟩⟩ := st
    simp only [List.mem_cons, List.not_mem_nil, or_false] at hc
    rcases hc with q | q | q | q | q
    · rw [q]; exact ⟨_, hz, fun v q => nomatch q⟩
    · rw [q]; exact ⟨_, hTI, fun v q => nomatch q⟩
    · rw [q]; exact ⟨_, hTO, fun v q => nomatch q⟩
    · rw [q]; exact ⟨o1, e1, fun v q => by rw [d1] at q; cases q⟩
    · rw [q]; exact ⟨o2, e2, fun v q => by rw [d2] at q; cases q⟩
  keep := fun i h h' st k => by
    obtain ⟨hz, hTI, ⟨x1, x2, hTO⟩, h1, h2⟩ := st
    exact ⟨k z (by simp) _ hz, k TI (by simp) _ hTI, ⟨x1, x2, k TO (by simp) _ hTO⟩, h1.at fun o q => k i1 (by simp) o q, h2.at fun o q => k i2 (by simp) o q⟩
  item := by
    intro X hP hw hK hc i pins s σ H E IV hf st hg
    subst hP hw hK
    obtain ⟨hz, hTI, ⟨y1, y2, hTO⟩, h1, h2⟩ := st
    obtain ⟨xs1, xs2, x1, x2, q1, q2, hx1, hx2⟩ := hg
    obtain ⟨its1, rv1, p1, _⟩ := inv_sr IV q1
    obtain ⟨u1, hu1, ru1⟩ := rv1.get hx1
    obtain ⟨its2, rv2, p2, _⟩ := inv_sr IV q2
    obtain ⟨u2, hu2, ru2⟩ := rv2.get hx2
    have hzl : z < s.heap.objs.size := Heap.lt_size hz
    have ne : ∀ (b c : Addr) (hb : b ∉ [z, TI, TO, i1, i2]) (hc : c ∈ [z, TI, TO, i1, i2]), b ≠ c := fun b c hb hc e => hb (e ▸ hc)
    refine zpy_item2 D hz hTI hTO h1 h2 p1 p2 (x1 := u1) (x2 := u2) (by simpa using hu1) (by simpa using hu2) fun h' z' TO' h1' h2' hT hsz hk => ?_
    refine ⟨_, rfl, wpAny_letOwnedTupleGo_zip (s := { s with heap := h' }) z' fun h'' z'' sb => ?_⟩
    have hT2 : h''.get? s.heap.objs.size = some { cls := .type "tuple", data := .seq #[u1, u2] } := (sb.2 _ (Nat.ne_of_gt hzl)).trans hT
    have new : ObjOk X.prog X.w (upd H s.heap.objs.size (.tup [x1, x2])) h'' s.heap.objs.size (.tup [x1, x2]) :=
      ⟨by show 2 ≤ sizeLine; decide, [u1, u2], .cons ru1 (.cons ru2 (.nil)), ⟨_, hT2, rfl, _, rfl⟩⟩
    have I1 : Inv X pins σ (upd H s.heap.objs.size (.tup [x1, x2])) { s with heap := h'' } :=
      IV.turnedNew (t' := s.toks) (ch := [z, TI, TO, i1, i2]) (fun c o hb q => (sb.2 c (ne c _ hb (by simp))).trans (hk c o (ne c _ hb (by simp)) (ne c _ hb (by simp)) (ne c _ hb (by simp)) (ne c _ hb (by simp)) q)) hf (Nat.le_refl _) new
    refine ⟨.ref s.heap.objs.size, _, I1, rfl, ⟨_, x1, x2, rfl, IV.hok.fresh (Nat.le_refl _), rfl, fun l hl => by rw [inv_inj IV hl q1]; exact hx1, fun l hl => by rw [inv_inj IV hl q2]; exact hx2⟩, ⟨z'', ?_, ⟨u1, u2, ?_⟩, ?_, ?_⟩, fun c hcm => ?_⟩
    · exact (sb.2 _ D.TIz).trans (hk _ _ D.TIz D.TITO D.TIi1 D.TIi2 hTI)
    · exact (sb.2 _ D.TOz).trans TO'
    · exact h1'.at fun o q => (sb.2 _ D.i1z).trans q
    · exact h2'.at fun o q => (sb.2 _ D.i2z).trans q
    · have hlt : c < s.heap.objs.size := by
        simp only [List.mem_cons, List.not_mem_nil, or_false] at hcm
        rcases hcm with q | q | q | q | q
        · rw [q]; exact hzl
        · rw [q]; exact Heap.lt_size hTI
        · rw [q]; exact Heap.lt_size hTO
        · rw [q]; exact h1.lt
        · rw [q]; exact h2.lt
      rw [upd_ne (Nat.ne_of_lt hlt)]
      exact (hf c hcm).1
  done := by
    intro X hP hw hK hc i pins s σ H E IV hf st hg
    subst hP hw hK
    obtain ⟨hz, hTI, ⟨y1, y2, hTO⟩, h1, h2⟩ := st
    obtain ⟨xs1, xs2, q1, q2, hend⟩ := hg
    obtain ⟨its1, rv1, p1, _⟩ := inv_sr IV q1
    have e1 := rv1.length
    obtain ⟨its2, rv2, p2, _⟩ := inv_sr IV q2
    have e2 := rv2.length
    have he : its1.toArray[i]? = none ∨ its2.toArray[i]? = none := by
      rcases hend with q | q
      · exact .inl (by simp; omega)
      · exact .inr (by simp; omega)
    have ne : ∀ (b c : Addr) (hb : b ∉ [z, TI, TO, i1, i2]) (hc : c ∈ [z, TI, TO, i1, i2]), b ≠ c := fun b c hb hc e => hb (e ▸ hc)
    exact zpy_end2 (IV.ok.hd hc) D hz hTI hTO h1 h2 p1 p2 he fun h' hk => ⟨rfl, IV.turnedL (t' := s.toks) (ch := [z, TI, TO, i1, i2]) (fun c o hb q =>
      hk c o (ne c _ hb (by simp)) (ne c _ hb (by simp)) (ne c _ hb (by simp)) (ne c _ hb (by simp)) q) hf⟩
  self := fun A i s Q E st h => wpAny_pyIter_zip st.1 h
theorem ap2 (I l1 l2 : Nat) (g1 : l1 < I) (g2 : l2 < I) : Ap2 (I + 4) (I + 2) (I + 3) I (I + 1) l1 l2 := by
  constructor <;> (refine PySem.W.neN ?_; omega)
def iZ2 (K : PySem.W.Frag) (ta : L2.TA) : L2.TI := fun σ H R => ta σ H fun vs H1 => ∃ c1 c2 l1 l2 xs1 xs2, vs = [.ref l1, .ref l2] ∧ Sq c1 K H1 l1 xs1 ∧ Sq c2 K H1 l2 xs2 ∧ R (ItZ2 K c1 c2 l1 l2) H1
theorem pi_z2 {X : Cx} {e1 e2 : Expr} {ta : L2.TA} {p pos tpos : Pos} {elts : List Expr} {kk : Nat} (hg : Gl X "zip") (hm : X.mg "zip" = none) (ha : PA X [e1, e2] ta)
    (hs : starEach [e1, e2] X.env = (false, eval e1 X.env) :: starEach [e2] X.env := by rfl) (hpl : (backTo pos (starEach [e2] X.env)).any (·.1) = false := by rfl) :
    PI X (.Tuple elts kk tpos) (.Call (.Name "zip" p) [e1, e2] [] pos) (iZ2 X.K ta) := by
  refine ⟨fun pins s σ H R IV h => ?_⟩
  refine Call_ (ld_blt IV hg hm PyProof.Rows.boot_zip (PyProof.Rows.callWith_type1 (thn (ha.run pos pins s σ H _ IV h) fun us s1 ⟨vs, H1, I1, r1, q1⟩ => ?_) hs hpl))
  obtain ⟨c1, c2, l1, l2, xs1, xs2, ex, q1, q2, q⟩ := q1
  subst ex
  cases r1 with
  | cons r rr =>
    cases r
    cases rr with
    | cons r rr =>
      cases r
      cases rr
      obtain ⟨its1, rv1, p1, _⟩ := inv_sr I1 q1
      obtain ⟨its2, rv2, p2, _⟩ := inv_sr I1 q2
      have fp : ∀ c ∈ [s1.heap.objs.size + 4, s1.heap.objs.size + 2, s1.heap.objs.size + 3, s1.heap.objs.size, s1.heap.objs.size + 1], FpOk X pins H1 c := fun c hcm => by
        have hle : s1.heap.objs.size ≤ c := by
          simp only [List.mem_cons, List.not_mem_nil, or_false] at hcm
          omega
        exact I1.fpOk hle (I1.hok.fresh hle)
      refine zcall2 p1 p2 fun h' hz hTI hTO h1 h2 hsz hk => wpAny_pyIter_zip hz ?_
      have I2 : Inv X pins σ H1 { s1 with heap := h' } := I1.kept (t' := s1.toks) hk
      exact ⟨_, [s1.heap.objs.size + 4, s1.heap.objs.size + 2, s1.heap.objs.size + 3, s1.heap.objs.size, s1.heap.objs.size + 1], _, _, H1, rfl, I2, turn_z2 (ap2 s1.heap.objs.size l1 l2 p1.lt p2.lt), ⟨hz, hTI, ⟨_, _, hTO⟩, h1, h2⟩, fp, q⟩
/-- 3 sources side by side -/
def ItZ3 (K : PySem.W.Frag) (c1 c2 c3 : Sk) (l1 l2 l3 : Addr) : It :=
  ⟨fun i H => ∃ (xs1 xs2 xs3 : List V) (x1 x2 x3 : V), Sq c1 K H l1 xs1 ∧ Sq c2 K H l2 xs2 ∧ Sq c3 K H l3 xs3 ∧ xs1[i]? = some x1 ∧ xs2[i]? = some x2 ∧ xs3[i]? = some x3,
    fun i H v H' => ∃ T x1 x2 x3, v = .ref T ∧ H T = none ∧ H' = upd H T (.tup [x1, x2, x3]) ∧ (∀ xs, Sq c1 K H l1 xs → xs[i]? = some x1) ∧ (∀ xs, Sq c2 K H l2 xs → xs[i]? = some x2) ∧ (∀ xs, Sq c3 K H l3 xs → xs[i]? = some x3),
    fun i H => ∃ xs1 xs2 xs3 : List V, Sq c1 K H l1 xs1 ∧ Sq c2 K H l2 xs2 ∧ Sq c3 K H l3 xs3 ∧ (xs1.length ≤ i ∨ xs2.length ≤ i ∨ xs3.length ≤ i)⟩
theorem turn_z3 {P : Program} {w : World} {K : PySem.W.Frag} {elts : List Expr} {kk : Nat} {tpos : Pos} {c1 c2 c3 : Sk} {l1 l2 l3 z TI TO i1 i2 i3 : Addr} (D : Ap3 z TI TO i1 i2 i3 l1 l2 l3) :
    Turn P w K (.Tuple elts kk tpos) (ItZ3 K c1 c2 c3 l1 l2 l3) [z, TI, TO, i1, i2, i3] z (fun i h => IsZip h z TI TO .none ∧ IsT3 h TI (.ref i1) (.ref i2) (.ref i3) ∧ (∃ x1 x2 x3, IsT3 h TO x1 x2 x3) ∧ IsIt c1 h i1 l1 i ∧ IsIt c2 h i2 l2 i ∧ IsIt c3 h i3 l3 i) where
  mem := List.mem_cons_self
  obj := fun i h st c hc => by
    obtain ⟨hz, hTI, ⟨x1, x2, x3, hTO⟩, ⟨o1, e1, _, d1⟩, ⟨o2, e2, _, d2⟩, ⟨o3, e3, _, d3⟩⟩ := st
    simp only [List.mem_cons, List.not_mem_nil, or_false] at hc
    rcases hc with q | q | q | q | q | q
    · rw [q]; exact ⟨_, hz, fun v q => nomatch q⟩
    · rw [q]; exact ⟨_, hTI, fun v q => nomatch q⟩
    · rw [q]; exact ⟨_, hTO, fun v q => nomatch q⟩
    · rw [q]; exact ⟨o1, e1, fun v q => by rw [d1] at q; cases q⟩
    · rw [q]; exact ⟨o2, e2, fun v q => by rw [d2] at q; cases q⟩
    · rw [q]; exact ⟨o3, e3, fun v q => by rw [d3] at q; cases q⟩
  keep := fun i h h' st k => by
    obtain ⟨hz, hTI, ⟨x1, x2, x3, hTO⟩, h1, h2, h3⟩ := st
    exact ⟨k z (by simp) _ hz, k TI (by simp) _ hTI, ⟨x1, x2, x3, k TO (by simp) _ hTO⟩, h1.at fun o q => k i1 (by simp) o q, h2.at fun o q => k i2 (by simp) o q, h3.at fun o q => k i3 (by simp) o q⟩
  item := by
    intro X hP hw hK hc i pins s σ H E IV hf st hg
    subst hP hw hK
    obtain ⟨hz, hTI, ⟨y1, y2, y3, hTO⟩, h1, h2, h3⟩ := st
    obtain ⟨xs1, xs2, xs3, x1, x2, x3, q1, q2, q3, hx1, hx2, hx3⟩ := hg
    obtain ⟨its1, rv1, p1, _⟩ := inv_sr IV q1
    obtain ⟨u1, hu1, ru1⟩ := rv1.get hx1
    obtain ⟨its2, rv2, p2, _⟩ := inv_sr IV q2
    obtain ⟨u2, hu2, ru2⟩ := rv2.get hx2
    obtain ⟨its3, rv3, p3, _⟩ := inv_sr IV q3
    obtain ⟨u3, hu3, ru3⟩ := rv3.get hx3
    have hzl : z < s.heap.objs.size := Heap.lt_size hz
    have ne : ∀ (b c : Addr) (hb : b ∉ [z, TI, TO, i1, i2, i3]) (hc : c ∈ [z, TI, TO, i1, i2, i3]), b ≠ c := fun b c hb hc e => hb (e ▸ hc)
    refine zpy_item3 D hz hTI hTO h1 h2 h3 p1 p2 p3 (x1 := u1) (x2 := u2) (x3 := u3) (by simpa using hu1) (by simpa using hu2) (by simpa using hu3) fun h' z' TO' h1' h2' h3' hT hsz hk => ?_
    refine ⟨_, rfl, wpAny_letOwnedTupleGo_zip (s := { s with heap := h' }) z' fun h'' z'' sb => ?_⟩
    have hT2 : h''.get? s.heap.objs.size = some { cls := .type "tuple", data := .seq #[u1, u2, u3] } := (sb.2 _ (Nat.ne_of_gt hzl)).trans hT
    have new : ObjOk X.prog X.w (upd H s.heap.objs.size (.tup [x1, x2, x3])) h'' s.heap.objs.size (.tup [x1, x2, x3]) :=
      ⟨by show 3 ≤ sizeLine; decide, [u1, u2, u3], .cons ru1 (.cons ru2 (.cons ru3 (.nil))), ⟨_, hT2, rfl, _, rfl⟩⟩
    have I1 : Inv X pins σ (upd H s.heap.objs.size (.tup [x1, x2, x3])) { s with heap := h'' } :=
      IV.turnedNew (t' := s.toks) (ch := [z, TI, TO, i1, i2, i3]) (fun c o hb q => (sb.2 c (ne c _ hb (by simp))).trans (hk c o (ne c _ hb (by simp)) (ne c _ hb (by simp)) (ne c _ hb (by simp)) (ne c _ hb (by simp)) (ne c _ hb (by simp)) q)) hf (Nat.le_refl _) new
    refine ⟨.ref s.heap.objs.size, _, I1, rfl, ⟨_, x1, x2, x3, rfl, IV.hok.fresh (Nat.le_refl _), rfl, fun l hl => by rw [inv_inj IV hl q1]; exact hx1, fun l hl => by rw [inv_inj IV hl q2]; exact hx2, fun l hl => by rw [inv_inj IV hl q3]; exact hx3⟩, ⟨z'', ?_, ⟨u1, u2, u3, ?_⟩, ?_, ?_, ?_⟩, fun c hcm => ?_⟩
    · exact (sb.2 _ D.TIz).trans (hk _ _ D.TIz D.TITO D.TIi1 D.TIi2 D.TIi3 hTI)
    · exact (sb.2 _ D.TOz).trans TO'
    · exact h1'.at fun o q => (sb.2 _ D.i1z).trans q
    · exact h2'.at fun o q => (sb.2 _ D.i2z).trans q
    · exact h3'.at fun o q => (sb.2 _ D.i3z).trans q
    · have hlt : c < s.heap.objs.size := by
        simp only [List.mem_cons, List.not_mem_nil, or_false] at hcm
        rcases hcm with q | q | q | q | q | q
        · rw [q]; exact hzl
        · rw [q]; exact Heap.lt_size hTI
        · rw [q]; exact Heap.lt_size hTO
        · rw [q]; exact h1.lt
        · rw [q]; exact h2.lt
        · rw [q]; exact h3.lt
      rw [upd_ne (Nat.ne_of_lt hlt)]
      exact (hf c hcm).1
  done := by
    intro X hP hw hK hc i pins s σ H E IV hf st hg
    subst hP hw hK
    obtain ⟨hz, hTI, ⟨y1, y2, y3, hTO⟩, h1, h2, h3⟩ := st
    obtain ⟨xs1, xs2, xs3, q1, q2, q3, hend⟩ := hg
    obtain ⟨its1, rv1, p1, _⟩ := inv_sr IV q1
    have e1 := rv1.length
    obtain ⟨its2, rv2, p2, _⟩ := inv_sr IV q2
    have e2 := rv2.length
    obtain ⟨its3, rv3, p3, _⟩ := inv_sr IV q3
    have e3 := rv3.length
    have he : its1.toArray[i]? = none ∨ its2.toArray[i]? = none ∨ its3.toArray[i]? = none := by
      rcases hend with q | q | q
      · exact .inl (by simp; omega)
      · exact .inr (.inl (by simp; omega))
      · exact .inr (.inr (by simp; omega))
    have ne : ∀ (b c : Addr) (hb : b ∉ [z, TI, TO, i1, i2, i3]) (hc : c ∈ [z, TI, TO, i1, i2, i3]), b ≠ c := fun b c hb hc e => hb (e ▸ hc)
    exact zpy_end3 (IV.ok.hd hc) D hz hTI hTO h1 h2 h3 p1 p2 p3 he fun h' hk => ⟨rfl, IV.turnedL (t' := s.toks) (ch := [z, TI, TO, i1, i2, i3]) (fun c o hb q =>
      hk c o (ne c _ hb (by simp)) (ne c _ hb (by simp)) (ne c _ hb (by simp)) (ne c _ hb (by simp)) (ne c _ hb (by simp)) q) hf⟩
  self := fun A i s Q E st h => wpAny_pyIter_zip st.1 h
theorem ap3 (I l1 l2 l3 : Nat) (g1 : l1 < I) (g2 : l2 < I) (g3 : l3 < I) : Ap3 (I + 5) (I + 3) (I + 4) I (I + 1) (I + 2) l1 l2 l3 := by
  constructor <;> (refine PySem.W.neN ?_; omega)
def iZ3 (K : PySem.W.Frag) (ta : L2.TA) : L2.TI := fun σ H R => ta σ H fun vs H1 => ∃ c1 c2 c3 l1 l2 l3 xs1 xs2 xs3, vs = [.ref l1, .ref l2, .ref l3] ∧ Sq c1 K H1 l1 xs1 ∧ Sq c2 K H1 l2 xs2 ∧ Sq c3 K H1 l3 xs3 ∧ R (ItZ3 K c1 c2 c3 l1 l2 l3) H1
theorem pi_z3 {X : Cx} {e1 e2 e3 : Expr} {ta : L2.TA} {p pos tpos : Pos} {elts : List Expr} {kk : Nat} (hg : Gl X "zip") (hm : X.mg "zip" = none) (ha : PA X [e1, e2, e3] ta)
    (hs : starEach [e1, e2, e3] X.env = (false, eval e1 X.env) :: starEach [e2, e3] X.env := by rfl) (hpl : (backTo pos (starEach [e2, e3] X.env)).any (·.1) = false := by rfl) :
    PI X (.Tuple elts kk tpos) (.Call (.Name "zip" p) [e1, e2, e3] [] pos) (iZ3 X.K ta) := by
  refine ⟨fun pins s σ H R IV h => ?_⟩
  refine Call_ (ld_blt IV hg hm PyProof.Rows.boot_zip (PyProof.Rows.callWith_type1 (thn (ha.run pos pins s σ H _ IV h) fun us s1 ⟨vs, H1, I1, r1, q1⟩ => ?_) hs hpl))
  obtain ⟨c1, c2, c3, l1, l2, l3, xs1, xs2, xs3, ex, q1, q2, q3, q⟩ := q1
  subst ex
  cases r1 with
  | cons r rr =>
    cases r
    cases rr with
    | cons r rr =>
      cases r
      cases rr with
      | cons r rr =>
        cases r
        cases rr
        obtain ⟨its1, rv1, p1, _⟩ := inv_sr I1 q1
        obtain ⟨its2, rv2, p2, _⟩ := inv_sr I1 q2
        obtain ⟨its3, rv3, p3, _⟩ := inv_sr I1 q3
        have fp : ∀ c ∈ [s1.heap.objs.size + 5, s1.heap.objs.size + 3, s1.heap.objs.size + 4, s1.heap.objs.size, s1.heap.objs.size + 1, s1.heap.objs.size + 2], FpOk X pins H1 c := fun c hcm => by
          have hle : s1.heap.objs.size ≤ c := by
            simp only [List.mem_cons, List.not_mem_nil, or_false] at hcm
            omega
          exact I1.fpOk hle (I1.hok.fresh hle)
        refine zcall3 p1 p2 p3 fun h' hz hTI hTO h1 h2 h3 hsz hk => wpAny_pyIter_zip hz ?_
        have I2 : Inv X pins σ H1 { s1 with heap := h' } := I1.kept (t' := s1.toks) hk
        exact ⟨_, [s1.heap.objs.size + 5, s1.heap.objs.size + 3, s1.heap.objs.size + 4, s1.heap.objs.size, s1.heap.objs.size + 1, s1.heap.objs.size + 2], _, _, H1, rfl, I2, turn_z3 (ap3 s1.heap.objs.size l1 l2 l3 p1.lt p2.lt p3.lt), ⟨hz, hTI, ⟨_, _, _, hTO⟩, h1, h2, h3⟩, fp, q⟩
end DL

end
section
set_option linter.all false
set_option maxRecDepth 100000
set_option maxHeartbeats 4000000
set_option autoImplicit false
/-! The data layer: enumerate of a list or a tuple (after the library's and the hand layer's proofs for lists). -/
namespace DL
open PySem PySem.Spec PyProof.Rows L2 RZ
def ItE (k : Sk) (K : PySem.W.Frag) (a : Addr) : It :=
  ⟨fun i H => ∃ xs x, Sq k K H a xs ∧ xs[i]? = some x, fun i H v H' => ∃ T x, v = .ref T ∧ H T = none ∧ H' = upd H T (.tup [.int (i : Nat), x]) ∧ ∀ xs, Sq k K H a xs → xs[i]? = some x, fun i H => ∃ xs, Sq k K H a xs ∧ xs.length ≤ i⟩
section
variable {prog : Program} {w : World} {A : Around} {E : Value → Shared → Prop} {s : Shared} {k : Sk}
theorem en_item {e it l : Addr} {i : Nat} {items : Array Value} {x old : Value} {Q : Value → Shared → Prop}
    (he : IsEnum s.heap e it i old) (hit : IsIt k s.heap it l i) (hl : IsSr k s.heap l items) (hx : items[i]? = some x) (hne : e ≠ it)
    (hQ : ∀ h', IsEnumOut h' e it ((i : Int) + 1) x s.heap.objs.size → IsIt k h' it l (i + 1) →
      h'.get? s.heap.objs.size = some { cls := .type "tuple", data := .seq #[.int i s.toks, x] } → h'.objs.size = s.heap.objs.size + 1 →
      (∀ b o, b ≠ e → b ≠ it → s.heap.get? b = some o → h'.get? b = some o) → Q (.ref s.heap.objs.size) { s with heap := h', toks := s.toks + 1 }) :
    wpAny (model prog w) A (Builtin.«enumerate.__next__» ⟨[.ref e], []⟩) (fun fin s' => ∃ v, fin = .done (.ret v) ∧ Q v s') E s := by
  obtain ⟨hp, g, d, tk, os⟩ := s
  show wpAny _ _ (field (.ref e) 2 >>= _) _ _ _
  refine wpAny_bind (wpAny_field he rfl (x := .ref it) rfl ?_)
  refine wpAny_bind (nx_item hit hl hx fun h₁ hit₁ hs₁ => ?_)
  replace hs₁ : Heap.SameBut it hp h₁ := hs₁
  have he₁ : IsEnum h₁ e it i old := (hs₁.2 e hne).trans he
  show wpAny _ _ (field (.ref e) 3 >>= _) _ _ ⟨h₁, g, d, tk, os⟩
  refine wpAny_bind (wpAny_field he₁ rfl (x := rawInt i) rfl ?_)
  show wpAny _ _ (field (.ref e) 4 >>= _) _ _ ⟨h₁, g, d, tk, os⟩
  refine wpAny_bind (wpAny_field he₁ rfl (x := .none) rfl ?_)
  show wpAny _ _ (mkInt i >>= _) _ _ ⟨h₁, g, d, tk, os⟩
  refine wpAny_bind (wpAny_mkInt ?_)
  show wpAny _ _ (setField (.ref e) 3 (rawInt ((i : Int) + 1)) >>= _) _ _ ⟨h₁, g, d, tk + 1, os⟩
  refine wpAny_bind (wpAny_setField_rec he₁ (by simp) fun h₂ he₂ hs₂ => ?_)
  replace hs₂ : Heap.SameBut e h₁ h₂ := hs₂
  replace he₂ : IsEnum h₂ e it ((i : Int) + 1) old := he₂
  show wpAny _ _ (setField (.ref e) 4 .none >>= _) _ _ ⟨h₂, g, d, tk + 1, os⟩
  refine wpAny_bind (wpAny_setField_rec he₂ (by simp) fun h₃ he₃ hs₃ => ?_)
  replace hs₃ : Heap.SameBut e h₂ h₃ := hs₃
  replace he₃ : IsEnum h₃ e it ((i : Int) + 1) old := he₃
  show wpAny _ _ (newTuple [.int i tk, x] >>= _) _ _ ⟨h₃, g, d, tk + 1, os⟩
  refine wpAny_bind (wpAny_newTuple ?_)
  have he₄ : IsEnum (h₃.push { cls := .type "tuple", data := .seq #[.int i tk, x] }) e it ((i : Int) + 1) old := Heap.get?_push_of_some _ he₃
  generalize hh₄ : h₃.push { cls := .type "tuple", data := .seq #[.int i tk, x] } = h₄ at he₄
  have hsz : h₃.objs.size = hp.objs.size := by rw [hs₃.1, hs₂.1, hs₁.1]
  have hel : e < hp.objs.size := Heap.lt_size he
  have ht₄ : h₄.get? hp.objs.size = some { cls := .type "tuple", data := .seq #[.int i tk, x] } := by rw [← hh₄, ← hsz]; exact Heap.get?_push_size _ rfl
  have hz₄ : h₄.objs.size = hp.objs.size + 1 := by rw [← hh₄, Heap.size_push, hsz]
  have hk₄ : ∀ b o, b ≠ e → b ≠ it → hp.get? b = some o → h₄.get? b = some o := fun b o hbe hbi hb => by
    rw [← hh₄]; exact Heap.get?_push_of_some _ (hs₃.extBut b o hbe (hs₂.extBut b o hbe (hs₁.extBut b o hbi hb)))
  have hit₄ : IsIt k h₄ it l (i + 1) := by
    rw [← hh₄]; obtain ⟨o, ho, r⟩ := (hit₁.ex hs₂.extBut (Ne.symm hne)).ex hs₃.extBut (Ne.symm hne); exact ⟨o, Heap.get?_push_of_some _ ho, r⟩
  show wpAny _ _ (Builtin.SmallTypes.ownedTupleIsFree (.ref e) >>= _) _ _ ⟨h₄, g, d, tk + 1, os⟩
  rw [hsz]
  clear hh₄ he₃ hs₃ he₂ hs₂ he₁ hs₁ hit₁ hsz h₃ h₂ h₁
  refine wpAny_bind ?_
  · unfold Builtin.SmallTypes.ownedTupleIsFree
    refine wpAny_bind (wpAny_field he₄ rfl (x := .none) rfl (wpAny_pure ?_))
    simp only [if_true]
    refine wpAny_bind (wpAny_rule ?_)
    refine wpAny_bind (wpAny_field he₄ rfl (x := old) rfl ?_)
    refine wpAny_bind (wpAny_setField_rec he₄ (by simp) fun h₅ he₅ hs₅ => ?_)
    replace hs₅ : Heap.SameBut e h₄ h₅ := hs₅
    replace he₅ : IsEnum h₅ e it ((i : Int) + 1) x := he₅
    show wpAny _ _ (Builtin.SmallTypes.ownedTupleHandOut (.ref e) (.ref hp.objs.size) >>= _) _ _ ⟨h₅, g, d, tk + 1, os⟩
    refine wpAny_bind ?_
    · unfold Builtin.SmallTypes.ownedTupleHandOut
      refine wpAny_bind (wpAny_setField_rec he₅ (by simp) fun h₆ he₆ hs₆ => ?_)
      replace hs₆ : Heap.SameBut e h₅ h₆ := hs₆
      replace he₆ : IsEnumOut h₆ e it ((i : Int) + 1) x hp.objs.size := he₆
      refine wpAny_setField_rec he₆ (by simp) fun h₇ he₇ hs₇ => ?_
      replace hs₇ : Heap.SameBut e h₆ h₇ := hs₇
      replace he₇ : IsEnumOut h₇ e it ((i : Int) + 1) x hp.objs.size := he₇
      refine wpAny_bind (wpAny_letGo (wpAny_pure ⟨_, rfl, hQ h₇ he₇ ?_ ?_ ?_ ?_⟩))
      · exact ((hit₄.ex hs₅.extBut (Ne.symm hne)).ex hs₆.extBut (Ne.symm hne)).ex hs₇.extBut (Ne.symm hne)
      · exact hs₇.extBut _ _ (Nat.ne_of_gt hel) (hs₆.extBut _ _ (Nat.ne_of_gt hel) (hs₅.extBut _ _ (Nat.ne_of_gt hel) ht₄))
      · rw [hs₇.1, hs₆.1, hs₅.1, hz₄]
      · exact fun b o hbe hbi hb => hs₇.extBut b o hbe (hs₆.extBut b o hbe (hs₅.extBut b o hbe (hk₄ b o hbe hbi hb)))

theorem enpy_item {e it l : Addr} {i : Nat} {items : Array Value} {x old : Value} {Q : Option Value → Shared → Prop}
    (he : IsEnum s.heap e it i old) (hit : IsIt k s.heap it l i) (hl : IsSr k s.heap l items) (hx : items[i]? = some x) (hne : e ≠ it)
    (hQ : ∀ h', IsEnumOut h' e it ((i : Int) + 1) x s.heap.objs.size → IsIt k h' it l (i + 1) →
      h'.get? s.heap.objs.size = some { cls := .type "tuple", data := .seq #[.int i s.toks, x] } → h'.objs.size = s.heap.objs.size + 1 →
      (∀ b o, b ≠ e → b ≠ it → s.heap.get? b = some o → h'.get? b = some o) → Q (some (.ref s.heap.objs.size)) { s with heap := h', toks := s.toks + 1 }) :
    wpAny (model prog w) A (pyNext (.ref e)) Q E s := by
  have hT : s.TypeIs (.ref e) "enumerate" := ⟨_, he, rfl⟩
  unfold pyNext
  exact wpAny_bind (wpAny_attempt (wpAny_callSpecial?_slot (name := Str.ofString "__next__") hT F.slot_enumerate_next
    (wpAny_call_entry F.slot_enumerate_next hT F.entry_enumerate_next
      (en_item he hit hl hx hne fun h' b1 b2 b3 b4 b5 => wpAny_pure (hQ h' b1 b2 b3 b4 b5)) (F.args_enumerate_next_1 _))))

theorem enpy_end {e it l : Addr} {i : Nat} {items : Array Value} {old : Value} {Q : Option Value → Shared → Prop} (hh : A.handled = none)
    (he : IsEnum s.heap e it i old) (hit : IsIt k s.heap it l i) (hl : IsSr k s.heap l items) (hx : items[i]? = none)
    (hQ : ∀ h', Heap.ExtBut it s.heap h' → Q none { s with heap := h' }) : wpAny (model prog w) A (pyNext (.ref e)) Q E s := by
  have hT : s.TypeIs (.ref e) "enumerate" := ⟨_, he, rfl⟩
  unfold pyNext
  refine wpAny_bind (wpAny_attempt (wpAny_callSpecial?_slot (name := Str.ofString "__next__") hT F.slot_enumerate_next
    (wpAny_call_entry F.slot_enumerate_next hT F.entry_enumerate_next ?_ (F.args_enumerate_next_1 _))))
  show wpAny _ _ (field (.ref e) 2 >>= _) _ _ _
  refine wpAny_bind (wpAny_field he rfl (x := .ref it) rfl ?_)
  refine wpAny_bind (nx_end hh hit hl hx fun h' x he' hx' => ?_)
  obtain ⟨o, ho, hc⟩ := hx'
  refine wpAny_bind (wpAny_isInstance (T := "StopIteration") (b := true) ⟨o, ho, hc⟩ isSubtype_stop ?_)
  exact wpAny_pure (hQ _ he')
end
theorem meets_en (k : Sk) (l : Addr) (items : Array Value) :
    Meets (Builtin.«enumerate.__new__» ⟨[.type "enumerate", .ref l], []⟩) (fun _ R s => IsSr k s.heap l items ∧
      R (.ok (.ret (.ref (s.heap.push { cls := .type k.nm, data := .fields #[.ref l, .int 0 0] }).objs.size)))
        { s with heap := (s.heap.push { cls := .type k.nm, data := .fields #[.ref l, .int 0 0] }).push { cls := .type "enumerate", data := .fields #[.none, .bool false, .ref s.heap.objs.size, rawInt 0, .none, .none] } }) :=
  .of_wp fun prog w A R s h => by
    obtain ⟨hp, g, d, tk, os⟩ := s
    obtain ⟨hl, h⟩ := h
    have hsub := sub_enumerate
    have hL : IsSr k (Shared.heap ⟨hp, g, d, tk, os⟩) l items := hl
    wp_walk
    refine wpAny_stack_any fun st => wpAny_pure ?_
    split
    · rename_i c _ _ _ _ _
      cases (c == Value.type "enumerate")
      · wp_walk using pyIter_sr hL
        exact ⟨_, rfl, h⟩
      · wp_walk using pyIter_sr hL
        exact ⟨_, rfl, h⟩
    · wp_walk using pyIter_sr hL
      exact ⟨_, rfl, h⟩
section
variable {prog : Program} {w : World} {A : Around} {E : Value → Shared → Prop} {s : Shared} {k : Sk}
theorem call_en {l : Addr} {items : Array Value} {Q : Value → Shared → Prop} (hL : IsSr k s.heap l items)
    (h : ∀ h', IsEnum h' (s.heap.objs.size + 1) s.heap.objs.size 0 .none → IsIt k h' s.heap.objs.size l 0 → h'.objs.size = s.heap.objs.size + 2 →
      (∀ b o, s.heap.get? b = some o → h'.get? b = some o) → Q (.ref (s.heap.objs.size + 1)) { s with heap := h' }) :
    wpAny (model prog w) A (call (.type "enumerate") [.ref l]) Q E s := by
  refine callType_new F.called_enumerate (by decide) (F.typeCall_enumerate_1 _) (F.newCall_enumerate_1 _) (fun obj => F.args_object_init_2 obj _) F.entry_enumerate_new (meets_en k l items) ⟨hL, ?_⟩
  have hz : (s.heap.push { cls := .type k.nm, data := .fields #[.ref l, .int 0 0] }).objs.size = s.heap.objs.size + 1 := Heap.size_push ..
  show _ ∧ _
  rw [hz]
  have he : IsEnum ((s.heap.push { cls := .type k.nm, data := .fields #[.ref l, .int 0 0] }).push
      { cls := .type "enumerate", data := .fields #[.none, .bool false, .ref s.heap.objs.size, rawInt 0, .none, .none] }) (s.heap.objs.size + 1) s.heap.objs.size 0 .none := by
    have := Heap.get?_push_size (s.heap.push { cls := .type k.nm, data := .fields #[.ref l, .int 0 0] })
      (o := { cls := .type "enumerate", data := .fields #[.none, .bool false, .ref s.heap.objs.size, rawInt 0, .none, .none] }) rfl
    rw [hz] at this; exact this
  refine ⟨⟨_, he, rfl⟩, h _ he ⟨_, Heap.get?_push_of_some _ (Heap.get?_push_size _ rfl), rfl, rfl⟩ (by rw [Heap.size_push, hz]) fun b o x => Heap.get?_push_of_some _ (Heap.get?_push_of_some _ x)⟩
end
theorem turn_en {P : Program} {w : World} {K : PySem.W.Frag} {elts : List Expr} {kk : Nat} {tpos : Pos} {k : Sk} (a e it : Addr) :
    Turn P w K (.Tuple elts kk tpos) (ItE k K a) [e, it] e (fun i h => (∃ old, IsEnum h e it ((i : Nat) : Int) old) ∧ IsIt k h it a i ∧ e ≠ it) where
  mem := by simp
  obj := fun i h st b hb => by
    obtain ⟨⟨old, he⟩, ⟨o, ho, hc, hd⟩, _⟩ := st
    have e' : b = e ∨ b = it := by simpa using hb
    rcases e' with z | z
    · rw [z]; exact ⟨_, he, fun v q => nomatch q⟩
    · rw [z]; exact ⟨o, ho, fun v q => by rw [hd] at q; cases q⟩
  keep := fun i h h' st kp => let ⟨⟨old, he⟩, hi, hne⟩ := st; ⟨⟨old, kp e (by simp) _ he⟩, hi.at fun o q => kp it (by simp) o q, hne⟩
  item := by
    intro X hP hw hK hc i pins s σ H E I hf st hg
    subst hP hw hK
    obtain ⟨⟨old, he⟩, hit, hne⟩ := st
    obtain ⟨xs, x, hq, hx⟩ := hg
    obtain ⟨its, rv, p, hz⟩ := inv_sr I hq
    obtain ⟨u, hu, ru⟩ := rv.get hx
    have hel : e < s.heap.objs.size := Heap.lt_size he
    have hil : it < s.heap.objs.size := hit.lt
    refine enpy_item he hit p (x := u) (by simpa using hu) hne fun h' ho hit' hT hsz hk => ?_
    refine ⟨_, rfl, wpAny_letOwnedTupleGo_enum (s := { s with heap := h', toks := s.toks + 1 }) ho fun h'' he' sb => ?_⟩
    have hT2 : h''.get? s.heap.objs.size = some { cls := .type "tuple", data := .seq #[.int i s.toks, u] } := (sb.2 _ (Nat.ne_of_gt hel)).trans hT
    have new : ObjOk X.prog X.w (upd H s.heap.objs.size (.tup [.int (i : Nat), x])) h'' s.heap.objs.size (.tup [.int (i : Nat), x]) :=
      ⟨by show 2 ≤ sizeLine; decide, [.int i s.toks, u], .cons ⟨_, rfl⟩ (.cons ru .nil), ⟨_, hT2, rfl, _, rfl⟩⟩
    have I1 : Inv X pins σ (upd H s.heap.objs.size (.tup [.int (i : Nat), x])) { s with heap := h'', toks := s.toks + 1 } :=
      I.turnedNew (ch := [e, it]) (fun b ob hb q => (sb.2 b (fun z => hb (by simp [z]))).trans (hk b ob (fun z => hb (by simp [z])) (fun z => hb (by simp [z])) q)) hf (Nat.le_refl _) new
    refine ⟨.ref s.heap.objs.size, _, I1, rfl, ⟨_, x, rfl, I.hok.fresh (Nat.le_refl _), rfl, fun ys hy => by rw [inv_inj I hy hq]; exact hx⟩, ⟨⟨u, ?_⟩, hit'.at fun o q => (sb.2 it (Ne.symm hne)).trans q, hne⟩, fun b hb => ?_⟩
    · have e1 : ((i + 1 : Nat) : Int) = (i : Int) + 1 := by omega
      rw [e1]; exact he'
    · have hb' : b < s.heap.objs.size := by
        have e' : b = e ∨ b = it := by simpa using hb
        rcases e' with z | z
        · rw [z]; exact hel
        · rw [z]; exact hil
      rw [upd_ne (Nat.ne_of_lt hb')]
      exact (hf b hb).1
  done := by
    intro X hP hw hK hc i pins s σ H E I hf st hg
    subst hP hw hK
    obtain ⟨⟨old, he⟩, hit, hne⟩ := st
    obtain ⟨xs, hq, hx⟩ := hg
    obtain ⟨its, rv, p, hz⟩ := inv_sr I hq
    obtain ⟨f0, f1, f2, f3, f4, f5⟩ := hf it (by simp)
    have hl := rv.length
    exact enpy_end (I.ok.hd hc) he hit p (by simp; omega) fun h' eb => ⟨rfl, I.turned (t' := s.toks) (fun b o hb q => eb b o hb q) f0 f1 f3 f4 f5⟩
  self := fun A i s Q E st h => let ⟨⟨_, he⟩, _⟩ := st; wpAny_pyIter_enum he h
def iEn (K : PySem.W.Frag) (ta : L2.TA) : L2.TI := fun σ H R => ta σ H fun vs H1 => ∃ k a xs, vs = [.ref a] ∧ Sq k K H1 a xs ∧ R (ItE k K a) H1
theorem pi_en {X : Cx} {e : Expr} {ta : L2.TA} {p pos tpos : Pos} {elts : List Expr} {kk : Nat} (hg : Gl X "enumerate") (hm : X.mg "enumerate" = none) (ha : PA X [e] ta) (hs : starEach [e] X.env = [(false, eval e X.env)] := by rfl) :
    PI X (.Tuple elts kk tpos) (.Call (.Name "enumerate" p) [e] [] pos) (iEn X.K ta) := by
  refine ⟨fun pins s σ H R I h => ?_⟩
  refine Call_ (ld_blt I hg hm boot_enumerate (PyProof.Rows.callWith_type1 (thn (ha.run pos pins s σ H _ I h) fun us s1 ⟨vs, H1, I1, r1, q1⟩ => ?_) hs rfl))
  obtain ⟨k, a, xs, ex, hq, q⟩ := q1
  subst ex
  cases r1 with
  | cons r rr =>
    cases rr
    cases r
    obtain ⟨its, rv, p', hz⟩ := inv_sr I1 hq
    refine call_en p' fun h' he hit hsz hk => wpAny_pyIter_enum he ?_
    have I2 : Inv X pins σ H1 { s1 with heap := h' } := I1.kept (t' := s1.toks) hk
    refine ⟨s1.heap.objs.size + 1, [s1.heap.objs.size + 1, s1.heap.objs.size], _, _, H1, rfl, I2, turn_en a (s1.heap.objs.size + 1) s1.heap.objs.size, ⟨⟨.none, he⟩, hit, Nat.succ_ne_self _⟩, fun b hb => ?_, q⟩
    have e' : b = s1.heap.objs.size + 1 ∨ b = s1.heap.objs.size := by simpa using hb
    have hle : s1.heap.objs.size ≤ b := by
      rcases e' with z | z
      · rw [z]; exact Nat.le_add_right _ _
      · rw [z]; exact Nat.le_refl _
    exact I1.fpOk hle (I1.hok.fresh hle)
end DL

end
section
set_option linter.all false
set_option maxRecDepth 100000
set_option autoImplicit false
/-! The data layer: walks by data, objects of one's own changed, several at once. -/
namespace DL
open PySem L2 PyProof.Rows

section
variable {K : PySem.W.Frag} {F S H : Hp}
/-- what may be walked: a value, its items -/
theorem items_rep {x : V} {d : D} {k : List D → Prop} (r : Rep K F x d) (t : items d k) : ∃ sk a vs ds, x = .ref a ∧ Sq sk K F a vs ∧ RepL K F vs ds ∧ k ds := by
  unfold items at t
  split at t
  · cases r with
    | tup q rl => exact ⟨.t, _, _, _, rfl, .of q, rl, t⟩
  · cases r with
    | lst q rl => exact ⟨.l, _, _, _, rfl, .of q, rl, t⟩
  · exact t.elim
theorem sq_inj1 {sk : Sk} {a : Addr} {vs : List V} {i : Nat} {x : V} (q : Sq sk K H a vs) (h : ∀ xs, Sq sk K H a xs → xs[i]? = some x) : vs[i]? = some x := h _ q
theorem itS_ok {sk : Sk} {a : Addr} {vs : List V} {ds : List D} (q : Sq sk K F a vs) (r : RepL K F vs ds) : ItOk K (ItS sk K a) F ds := by
  have l := r.length
  refine ⟨fun i F' S' H' hi sm ok => ?_, fun F' S' H' sm ok => ?_, fun i F' S' H' x H'' hi sm ok y => ?_⟩
  · have q' : Sq sk K H' a vs := q.mono (sm.trans ok.fh)
    have hv : i < vs.length := by rw [l]; exact hi
    cases sk with
    | l => exact ⟨vs, vs[i], q', List.getElem?_eq_getElem hv⟩
    | t => exact ⟨vs, vs[i], q', List.getElem?_eq_getElem hv⟩
  · have q' : Sq sk K H' a vs := q.mono (sm.trans ok.fh)
    cases sk with
    | l => exact ⟨vs, q', by omega⟩
    | t => exact ⟨vs, q', by omega⟩
  · have q' : Sq sk K H' a vs := q.mono (sm.trans ok.fh)
    have z : H'' = H' ∧ vs[i]? = some x := by
      cases sk with
      | l => exact ⟨y.1, y.2 vs q'⟩
      | t => exact ⟨y.1, y.2 vs q'⟩
    obtain ⟨rfl, e⟩ := z
    obtain ⟨d, e1, e2⟩ := r.get i e
    exact ⟨F', d, e1, Go.refl ok, e2.mono sm⟩
theorem intsFrom_get : ∀ (n : Nat) (lo : Int) (i : Nat), i < n → (intsFrom lo n)[i]? = some (.int (lo + i))
  | 0, _, _, h => by omega
  | n + 1, lo, 0, _ => by simp [intsFrom]
  | n + 1, lo, i + 1, h => by
    simp only [intsFrom, List.getElem?_cons_succ]
    rw [intsFrom_get n (lo + 1) i (by omega)]
    congr 2
    omega
theorem intsFrom_len : ∀ (n : Nat) (lo : Int), (intsFrom lo n).length = n
  | 0, _ => rfl
  | n + 1, lo => by simp [intsFrom, intsFrom_len n]
theorem itR_ok {lo : Int} {n : Nat} : ItOk K (Itr lo n) F (intsFrom lo n) := by
  refine ⟨fun i F' S' H' hi sm ok => ?_, fun F' S' H' sm ok => ?_, fun i F' S' H' x H'' hi sm ok y => ?_⟩
  · rw [intsFrom_len] at hi; exact hi
  · show n ≤ _
    rw [intsFrom_len]; exact Nat.le_refl _
  · rw [intsFrom_len] at hi
    obtain ⟨rfl, rfl⟩ := y
    exact ⟨F', _, intsFrom_get n lo i hi, Go.refl ok, .int _⟩
theorem itZ2_ok {c1 c2 : Sk} {a b : Addr} {vs us : List V} {ds es : List D} (q1 : Sq c1 K F a vs) (r1 : RepL K F vs ds) (q2 : Sq c2 K F b us) (r2 : RepL K F us es) :
    ItOk K (ItZ2 K c1 c2 a b) F (List.zipWith (fun u v => .tup [u, v]) ds es) := by
  have l1 := r1.length
  have l2 := r2.length
  refine ⟨fun i F' S' H' hi sm ok => ?_, fun F' S' H' sm ok => ?_, fun i F' S' H' x H'' hi sm ok y => ?_⟩
  · rw [List.length_zipWith] at hi
    exact ⟨vs, us, vs[i]'(by omega), us[i]'(by omega), q1.mono (sm.trans ok.fh), q2.mono (sm.trans ok.fh), List.getElem?_eq_getElem _, List.getElem?_eq_getElem _⟩
  · refine ⟨vs, us, q1.mono (sm.trans ok.fh), q2.mono (sm.trans ok.fh), ?_⟩
    rw [List.length_zipWith]
    omega
  · obtain ⟨T, x1, x2, rfl, hT, rfl, f1, f2⟩ := y
    obtain ⟨d, e1, e2⟩ := r1.get i (f1 vs (q1.mono (sm.trans ok.fh)))
    obtain ⟨e, e3, e4⟩ := r2.get i (f2 us (q2.mono (sm.trans ok.fh)))
    obtain ⟨g, r⟩ := rep_new ok hT (.cons (e2.mono sm) (.cons (e4.mono sm) .nil))
    exact ⟨_, .tup [d, e], by simp [List.getElem?_zipWith, e1, e3], g, r⟩
theorem zip3_get : ∀ {xs ys zs : List D} {i : Nat} {x y z : D}, xs[i]? = some x → ys[i]? = some y → zs[i]? = some z → (zip3 xs ys zs)[i]? = some (.tup [x, y, z])
  | a :: xs, b :: ys, c :: zs, 0, x, y, z, h1, h2, h3 => by simp at h1 h2 h3; subst h1 h2 h3; simp [zip3]
  | a :: xs, b :: ys, c :: zs, i + 1, x, y, z, h1, h2, h3 => by
    simp only [List.getElem?_cons_succ] at h1 h2 h3
    simp only [zip3, List.getElem?_cons_succ]
    exact zip3_get h1 h2 h3
  | [], _, _, _, _, _, _, h1, _, _ => by simp at h1
  | _ :: _, [], _, _, _, _, _, _, h2, _ => by simp at h2
  | _ :: _, _ :: _, [], _, _, _, _, _, _, h3 => by simp at h3
theorem zip3_len : ∀ (xs ys zs : List D), (zip3 xs ys zs).length = min xs.length (min ys.length zs.length)
  | a :: xs, b :: ys, c :: zs => by simp [zip3, zip3_len xs ys zs] <;> omega
  | [], _, _ => by simp [zip3]
  | _ :: _, [], _ => by simp [zip3]
  | _ :: _, _ :: _, [] => by simp [zip3]
theorem itZ3_ok {c1 c2 c3 : Sk} {a b c : Addr} {vs us ws : List V} {ds es fs : List D} (q1 : Sq c1 K F a vs) (r1 : RepL K F vs ds) (q2 : Sq c2 K F b us) (r2 : RepL K F us es) (q3 : Sq c3 K F c ws) (r3 : RepL K F ws fs) :
    ItOk K (ItZ3 K c1 c2 c3 a b c) F (zip3 ds es fs) := by
  have l1 := r1.length
  have l2 := r2.length
  have l3 := r3.length
  refine ⟨fun i F' S' H' hi sm ok => ?_, fun F' S' H' sm ok => ?_, fun i F' S' H' x H'' hi sm ok y => ?_⟩
  · rw [zip3_len] at hi
    exact ⟨vs, us, ws, vs[i]'(by omega), us[i]'(by omega), ws[i]'(by omega), q1.mono (sm.trans ok.fh), q2.mono (sm.trans ok.fh), q3.mono (sm.trans ok.fh), List.getElem?_eq_getElem _, List.getElem?_eq_getElem _, List.getElem?_eq_getElem _⟩
  · refine ⟨vs, us, ws, q1.mono (sm.trans ok.fh), q2.mono (sm.trans ok.fh), q3.mono (sm.trans ok.fh), ?_⟩
    rw [zip3_len]
    omega
  · obtain ⟨T, x1, x2, x3, rfl, hT, rfl, f1, f2, f3⟩ := y
    obtain ⟨d, e1, e2⟩ := r1.get i (f1 vs (q1.mono (sm.trans ok.fh)))
    obtain ⟨e, e3, e4⟩ := r2.get i (f2 us (q2.mono (sm.trans ok.fh)))
    obtain ⟨f, e5, e6⟩ := r3.get i (f3 ws (q3.mono (sm.trans ok.fh)))
    obtain ⟨g, r⟩ := rep_new ok hT (.cons (e2.mono sm) (.cons (e4.mono sm) (.cons (e6.mono sm) .nil)))
    exact ⟨_, .tup [d, e, f], zip3_get e1 e3 e5, g, r⟩
theorem enumF_get : ∀ (xs : List D) (n i : Nat) {x : D}, xs[i]? = some x → (enumF n xs)[i]? = some (.tup [.int ((n + i : Nat) : Int), x])
  | [], _, _, _, h => by simp at h
  | a :: xs, n, 0, x, h => by simp at h; subst h; simp [enumF]
  | a :: xs, n, i + 1, x, h => by
    simp only [enumF, List.getElem?_cons_succ] at h ⊢
    rw [enumF_get xs (n + 1) i h]
    have e : n + 1 + i = n + (i + 1) := by omega
    rw [e]
theorem enumF_len : ∀ (xs : List D) (n : Nat), (enumF n xs).length = xs.length
  | [], _ => rfl
  | a :: xs, n => by simp [enumF, enumF_len xs]
theorem itE_ok {sk : Sk} {a : Addr} {vs : List V} {ds : List D} (q : Sq sk K F a vs) (r : RepL K F vs ds) : ItOk K (ItE sk K a) F (enumF 0 ds) := by
  have l := r.length
  refine ⟨fun i F' S' H' hi sm ok => ?_, fun F' S' H' sm ok => ?_, fun i F' S' H' x H'' hi sm ok y => ?_⟩
  · rw [enumF_len] at hi
    exact ⟨vs, vs[i]'(by omega), q.mono (sm.trans ok.fh), List.getElem?_eq_getElem _⟩
  · refine ⟨vs, q.mono (sm.trans ok.fh), ?_⟩
    rw [enumF_len]
    omega
  · obtain ⟨T, x1, rfl, hT, rfl, f1⟩ := y
    obtain ⟨d, e1, e2⟩ := r.get i (f1 vs (q.mono (sm.trans ok.fh)))
    obtain ⟨g, r'⟩ := rep_new ok hT (.cons (.int (i : Nat)) (.cons (e2.mono sm) .nil))
    refine ⟨_, .tup [.int ((0 + i : Nat) : Int), d], enumF_get ds 0 i e1, g, ?_⟩
    rw [Nat.zero_add]
    exact r'
end
section
variable {X : Cx} {tg e a b c : Expr} {T Ta Tb Tc : TE Hp} {pos p tpos : Pos} {elts : List Expr} {kk : Nat}
theorem di_of (h : DE X e T) : DI X tg e (iOf T) := pi_weak (pi_sq h) fun σ H R ⟨B, F, S, env, Q, st, t, k⟩ => ⟨B, F, S, env, _, st, t, fun d S1 F1 H1 v g1 r1 q1 => by
  obtain ⟨sk, a, vs, ds, rfl, q, rl, t'⟩ := items_rep r1 q1
  exact ⟨sk, a, vs, rfl, q.mono g1.ok.fh, k ds S1 F1 H1 _ g1 (itS_ok q rl) t'⟩⟩
theorem da1 (h : DE X e T) (hs : starEach [e] X.env = [(false, eval e X.env)] := by rfl) : DA X [e] (aCons T aNil) := da_cons h da_nil hs
theorem da1' (h : DE X a Ta) (hs : starEach [a] X.env = (false, eval a X.env) :: starEach [] X.env := by rfl) : DA X [a] (aCons Ta aNil) := da_cons h da_nil hs
theorem rl1 {K : PySem.W.Frag} {F : Hp} {vs : List V} {d : D} (h : RepL K F vs [d]) : ∃ v, vs = [v] ∧ Rep K F v d := by
  cases h with
  | cons r q => cases q; exact ⟨_, rfl, r⟩
theorem rl2 {K : PySem.W.Frag} {F : Hp} {vs : List V} {d e : D} (h : RepL K F vs [d, e]) : ∃ v u, vs = [v, u] ∧ Rep K F v d ∧ Rep K F u e := by
  cases h with
  | cons r q => obtain ⟨u, rfl, q'⟩ := rl1 q; exact ⟨_, _, rfl, r, q'⟩
theorem rl3 {K : PySem.W.Frag} {F : Hp} {vs : List V} {d e f : D} (h : RepL K F vs [d, e, f]) : ∃ v u w, vs = [v, u, w] ∧ Rep K F v d ∧ Rep K F u e ∧ Rep K F w f := by
  cases h with
  | cons r q => obtain ⟨u, w, rfl, q', q''⟩ := rl2 q; exact ⟨_, _, _, rfl, r, q', q''⟩
theorem rep_int {K : PySem.W.Frag} {F : Hp} {v : V} {i : Int} (h : Rep K F v (.int i)) : v = .int i := by cases h; rfl
theorem rng1 {σ : L2.St} {H : Hp} {R : It → Hp → Prop} {r : TA Hp} (h : liftI X.K (iRng r) σ H R) : iRng1 (liftA X.K 1 r) σ H R := by
  obtain ⟨B, F, S, env, Q, st, t, k⟩ := h
  refine ⟨B, F, S, env, _, st, t, fun ds S1 F1 H1 vs g1 r1 l q1 => ?_⟩
  unfold rng at q1
  split at q1
  · obtain ⟨v, rfl, e⟩ := rl1 r1
    have e' := rep_int e
    subst e'
    exact ⟨_, rfl, q1.1, q1.2.1, k _ S1 F1 H1 _ g1 itR_ok q1.2.2⟩
  · cases l
  · cases l
  · exact q1.elim
theorem rng2 {σ : L2.St} {H : Hp} {R : It → Hp → Prop} {r : TA Hp} (h : liftI X.K (iRng r) σ H R) : iRng2 (liftA X.K 2 r) σ H R := by
  obtain ⟨B, F, S, env, Q, st, t, k⟩ := h
  refine ⟨B, F, S, env, _, st, t, fun ds S1 F1 H1 vs g1 r1 l q1 => ?_⟩
  unfold rng at q1
  split at q1
  · cases l
  · obtain ⟨v, u, rfl, e, f⟩ := rl2 r1
    have e' := rep_int e
    have f' := rep_int f
    subst e' f'
    exact ⟨_, _, rfl, ⟨q1.1, q1.2.1, q1.2.2.1, q1.2.2.2.1⟩, k _ S1 F1 H1 _ g1 itR_ok q1.2.2.2.2⟩
  · cases l
  · exact q1.elim
theorem intsDown_get : ∀ (n : Nat) (hi : Int) (i : Nat), i < n → (intsDown hi n)[i]? = some (.int (hi + (i : Nat) * (-1)))
  | 0, _, _, h => by omega
  | n + 1, hi, 0, _ => by simp [intsDown]
  | n + 1, hi, i + 1, h => by
    simp only [intsDown, List.getElem?_cons_succ]
    rw [intsDown_get n (hi - 1) i (by omega)]
    congr 2
    omega
theorem intsDown_len : ∀ (n : Nat) (hi : Int), (intsDown hi n).length = n
  | 0, _ => rfl
  | n + 1, hi => by simp [intsDown, intsDown_len n]
theorem itC_ok {K : PySem.W.Frag} {F : Hp} {hi : Int} {n : Nat} : ItOk K (Itc hi (-1) n) F (intsDown hi n) := by
  refine ⟨fun i F' S' H' hi' sm ok => ?_, fun F' S' H' sm ok => ?_, fun i F' S' H' x H'' hi' sm ok y => ?_⟩
  · rw [intsDown_len] at hi'; exact hi'
  · show n ≤ _
    rw [intsDown_len]; exact Nat.le_refl _
  · rw [intsDown_len] at hi'
    obtain ⟨rfl, rfl⟩ := y
    exact ⟨F', _, intsDown_get n hi i hi', Go.refl ok, .int _⟩
theorem rng3 {σ : L2.St} {H : Hp} {R : It → Hp → Prop} {r : TA Hp} (h : liftI X.K (iRng r) σ H R) : iRng3 (liftA X.K 3 r) σ H R := by
  obtain ⟨B, F, S, env, Q, st, t, k⟩ := h
  refine ⟨B, F, S, env, _, st, t, fun ds S1 F1 H1 vs g1 r1 l q1 => ?_⟩
  unfold rng at q1
  split at q1
  · cases l
  · cases l
  · obtain ⟨v, u, w, rfl, e, f, g⟩ := rl3 r1
    have e' := rep_int e
    have f' := rep_int f
    have g' := rep_int g
    subst e' f' g'
    obtain ⟨rfl, h1, h2, h3, h4, q1⟩ := q1
    exact ⟨_, _, _, _, rfl, RgC.neg h3 h4 h1 h2, k _ S1 F1 H1 _ g1 itC_ok q1⟩
  · exact q1.elim
theorem zip_2 {σ : L2.St} {H : Hp} {R : It → Hp → Prop} {r : TA Hp} (h : liftI X.K (iZip r) σ H R) : iZ2 X.K (liftA X.K 2 r) σ H R := by
  obtain ⟨B, F, S, env, Q, st, t, k⟩ := h
  refine ⟨B, F, S, env, _, st, t, fun ds S1 F1 H1 vs g1 r1 l q1 => ?_⟩
  unfold zipL at q1
  split at q1
  · obtain ⟨v, u, rfl, e, f⟩ := rl2 r1
    obtain ⟨c1, a1, vs1, ds1, rfl, h1, h2, q1⟩ := items_rep e q1
    obtain ⟨c2, a2, vs2, ds2, rfl, h3, h4, q1⟩ := items_rep f q1
    exact ⟨c1, c2, a1, a2, vs1, vs2, rfl, h1.mono g1.ok.fh, h3.mono g1.ok.fh, k _ S1 F1 H1 _ g1 (itZ2_ok h1 h2 h3 h4) q1⟩
  · cases l
  · exact q1.elim
theorem zip_3 {σ : L2.St} {H : Hp} {R : It → Hp → Prop} {r : TA Hp} (h : liftI X.K (iZip r) σ H R) : iZ3 X.K (liftA X.K 3 r) σ H R := by
  obtain ⟨B, F, S, env, Q, st, t, k⟩ := h
  refine ⟨B, F, S, env, _, st, t, fun ds S1 F1 H1 vs g1 r1 l q1 => ?_⟩
  unfold zipL at q1
  split at q1
  · cases l
  · obtain ⟨v, u, w, rfl, e, f, g⟩ := rl3 r1
    obtain ⟨c1, a1, vs1, ds1, rfl, h1, h2, q1⟩ := items_rep e q1
    obtain ⟨c2, a2, vs2, ds2, rfl, h3, h4, q1⟩ := items_rep f q1
    obtain ⟨c3, a3, vs3, ds3, rfl, h5, h6, q1⟩ := items_rep g q1
    exact ⟨c1, c2, c3, a1, a2, a3, vs1, vs2, vs3, rfl, h1.mono g1.ok.fh, h3.mono g1.ok.fh, h5.mono g1.ok.fh, k _ S1 F1 H1 _ g1 (itZ3_ok h1 h2 h3 h4 h5 h6) q1⟩
  · exact q1.elim
theorem en_1 {σ : L2.St} {H : Hp} {R : It → Hp → Prop} {r : TA Hp} (h : liftI X.K (iEnum r) σ H R) : iEn X.K (liftA X.K 1 r) σ H R := by
  obtain ⟨B, F, S, env, Q, st, t, k⟩ := h
  refine ⟨B, F, S, env, _, st, t, fun ds S1 F1 H1 vs g1 r1 l q1 => ?_⟩
  unfold enumL at q1
  split at q1
  · obtain ⟨v, rfl, e⟩ := rl1 r1
    obtain ⟨c1, a1, vs1, ds1, rfl, h1, h2, q1⟩ := items_rep e q1
    exact ⟨c1, a1, vs1, rfl, h1.mono g1.ok.fh, k _ S1 F1 H1 _ g1 (itE_ok h1 h2) q1⟩
  · exact q1.elim
theorem di_range1 (h : DE X a Ta) (hm : X.mg "range" = none) (hg : Gl X "range" := by rfl) (hs : starEach [a] X.env = [(false, eval a X.env)] := by rfl) : DI X tg (.Call (.Name "range" p) [a] [] pos) (iRng (aCons Ta aNil)) :=
  pi_weak (pi_range1 hg hm (da1 h hs) hs) fun σ H R h => rng1 h
theorem di_range2 (h : DE X a Ta) (h2 : DE X b Tb) (hm : X.mg "range" = none) (hg : Gl X "range" := by rfl) (hs : starEach [a, b] X.env = [(false, eval a X.env), (false, eval b X.env)] := by rfl) (hs1 : starEach [a, b] X.env = (false, eval a X.env) :: starEach [b] X.env := by rfl) (hs2 : starEach [b] X.env = [(false, eval b X.env)] := by rfl) :
    DI X tg (.Call (.Name "range" p) [a, b] [] pos) (iRng (aCons Ta (aCons Tb aNil))) :=
  pi_weak (pi_range2 hg hm (da_cons h (da1 h2 hs2) hs1) hs hs2) fun σ H R h => rng2 h
theorem di_range3 (h : DE X a Ta) (h2 : DE X b Tb) (h3 : DE X c Tc) (hm : X.mg "range" = none) (hg : Gl X "range" := by rfl) (hs1 : starEach [a, b, c] X.env = (false, eval a X.env) :: starEach [b, c] X.env := by rfl) (hs2 : starEach [b, c] X.env = (false, eval b X.env) :: starEach [c] X.env := by rfl) (hs3 : starEach [c] X.env = [(false, eval c X.env)] := by rfl) (hpl : (backTo pos (starEach [b, c] X.env)).any (·.1) = false := by rfl) :
    DI X tg (.Call (.Name "range" p) [a, b, c] [] pos) (iRng (aCons Ta (aCons Tb (aCons Tc aNil)))) :=
  pi_weak (pi_range3 hg hm (da_cons h (da_cons h2 (da1 h3 hs3) hs2) hs1) hs1 hpl) fun σ H R h => rng3 h
theorem di_zip2 (h : DE X a Ta) (h2 : DE X b Tb) (hm : X.mg "zip" = none) (hg : Gl X "zip" := by rfl) (hs1 : starEach [a, b] X.env = (false, eval a X.env) :: starEach [b] X.env := by rfl) (hs2 : starEach [b] X.env = [(false, eval b X.env)] := by rfl) (hpl : (backTo pos (starEach [b] X.env)).any (·.1) = false := by rfl) :
    DI X (.Tuple elts kk tpos) (.Call (.Name "zip" p) [a, b] [] pos) (iZip (aCons Ta (aCons Tb aNil))) :=
  pi_weak (pi_z2 hg hm (da_cons h (da1 h2 hs2) hs1) hs1 hpl) fun σ H R h => zip_2 h
theorem di_zip3 (h : DE X a Ta) (h2 : DE X b Tb) (h3 : DE X c Tc) (hm : X.mg "zip" = none) (hg : Gl X "zip" := by rfl) (hs1 : starEach [a, b, c] X.env = (false, eval a X.env) :: starEach [b, c] X.env := by rfl) (hs2 : starEach [b, c] X.env = (false, eval b X.env) :: starEach [c] X.env := by rfl) (hs3 : starEach [c] X.env = [(false, eval c X.env)] := by rfl) (hpl : (backTo pos (starEach [b, c] X.env)).any (·.1) = false := by rfl) :
    DI X (.Tuple elts kk tpos) (.Call (.Name "zip" p) [a, b, c] [] pos) (iZip (aCons Ta (aCons Tb (aCons Tc aNil)))) :=
  pi_weak (pi_z3 hg hm (da_cons h (da_cons h2 (da1 h3 hs3) hs2) hs1) hs1 hpl) fun σ H R h => zip_3 h
theorem di_enum (h : DE X a Ta) (hm : X.mg "enumerate" = none) (hg : Gl X "enumerate" := by rfl) (hs : starEach [a] X.env = [(false, eval a X.env)] := by rfl) : DI X (.Tuple elts kk tpos) (.Call (.Name "enumerate" p) [a] [] pos) (iEnum (aCons Ta aNil)) :=
  pi_weak (pi_en hg hm (da1 h hs) hs) fun σ H R h => en_1 h
end
end DL
namespace DL
open PySem L2 PyProof.Rows
/-! ### objects of one's own, changed -/
section
variable {K : PySem.W.Frag} {F0 S0 B F S H : Hp} {env : Env} {σ : L2.St} {i : Nat}
/-- the object of slot i is written -/
theorem StR.write {d d' : D} {a : Addr} {o' : HO} (g : Go F0 S0 B F S H) (h : StR K B F S env σ H) (e : env[i]? = some (.own d)) (hs : σ[i]? = some (some (.ref a))) (r : OwnR K F o' d') :
    Go F0 S0 B F S (upd H a o') ∧ StR K B F S (env.set i (.own d')) σ (upd H a o') := by
  obtain ⟨a', o, h1, h2, h3, h4, h5, h6⟩ := h.own e
  rw [hs] at h1
  cases h1
  have hi : i < env.length := (List.getElem?_eq_some_iff.mp e).1
  have ok' : HOK F S (upd H a o') := ⟨fun x u hx => by rw [upd_ne (ne_of_none hx h3)]; exact h.ok.fh _ _ hx, fun x u hx => by rw [upd_ne (ne_of_none hx h4)]; exact h.ok.sh _ _ hx, h.ok.ap⟩
  refine ⟨⟨g.ff, ok', fun x u hx hsx => ?_, fun x hx => ?_, g.nf, g.ns⟩, ⟨ok', by simp [h.len], fun j e' o2 q1 q2 => ?_, fun j k d1 d2 x hjk q1 q2 q3 q4 => ?_⟩⟩
  · rw [upd_ne (ne_of_none hx h2)]; exact g.keep _ _ hx hsx
  · by_cases q : x = a
    · subst q; rw [upd_same]; exact fun z => nomatch z
    · rw [upd_ne q]; exact g.dom _ hx
  · by_cases ej : i = j
    · subst ej
      rw [List.getElem?_set_self hi] at q1
      rw [hs] at q2
      cases q1; cases q2
      exact .own h2 h3 h4 upd_same r
    · rw [List.getElem?_set_ne ej] at q1
      cases h.sl j e' o2 q1 q2 with
      | no => exact .no
      | val r => exact .val r
      | own b f s' q r =>
        rename_i a2 o1 d1
        have na : a2 ≠ a := fun z => by
          subst z
          exact h.ap i j d d1 a2 ej e q1 hs q2
        exact .own b f s' (by rw [upd_ne na]; exact q) r
  · have n1 : ∀ (j : Nat) (d1 : D), (env.set i (Sl.own d'))[j]? = some (Sl.own d1) → ∃ d2, env[j]? = some (Sl.own d2) := fun j d1 q => by
      by_cases ej : i = j
      · subst ej; exact ⟨d, e⟩
      · rw [List.getElem?_set_ne ej] at q; exact ⟨d1, q⟩
    obtain ⟨d3, z3⟩ := n1 _ _ q1
    obtain ⟨d4, z4⟩ := n1 _ _ q2
    exact h.ap j k d3 d4 x hjk z3 z4 q3 q4
end
section
variable {X : Cx} {e a b c o : Expr} {T Ta Tb Tc Ti : TE Hp} {pos : Pos}
/-- x.append(e) -/
theorem ds_app {i : Nat} {x : PySem.Str} {p apos cpos : Pos} (he : DE X e T) (hN : X.N[i]? = some x := by rfl) (hv : Vis X.env.scope x := by first | exact Or.inl rfl | exact Or.inr (Or.inl rfl) | exact Or.inr (Or.inr rfl)) (hd : (x == ("__debug__" : PySem.Str)) = false := by decide)
    (hcd : (x == ("__classdict__" : PySem.Str)) = false := by decide) (hbase : attributeBase (.Name x p) "append" X.env (eval (.Name x p) X.env) = eval (.Name x p) X.env := by rfl)
    (hfew : ((backTo cpos (starEach [e] X.env)).all (fun x => !x.1) && (backToKw cpos (keywordEach [] X.env)).all (fun x => x.1.isSome) && decide (([e] : List Expr).length + ([] : List Keyword).length + (if ([] : List Keyword).isEmpty then 0 else 1) < 30)) = true := by rfl)
    (hline : (apos.endLine == cpos.line) = true := by rfl) (hs : starEach [e] X.env = (false, eval e X.env) :: starEach [] X.env := by rfl) (hplain : (backTo cpos (starEach [] X.env)).any (·.1) = false := by rfl)
    (hsw : swapsWith (.Call (.Attribute (.Name x p) "append" apos) [e] [] cpos) none pos.line X.env = pure false := by rfl) :
    DS X (.Expr (.Call (.Attribute (.Name x p) "append" apos) [e] [] cpos) pos) (sApp i T) :=
  ps_weak (ps_expr (pe_bm PySem.F.plainAttrs_list PySem.F.slot_list_append PySem.F.type_list_append mt_append (pe_var hN hv hd hcd) (pa_cons he pa_nil hs) hbase hfew hline hs hplain) hsw) fun D σ H ⟨F0, S0, B, F, S, env, KD, g, st, t, k⟩ => by
  unfold sApp at t
  split at t
  · rename_i ds ei
    obtain ⟨a, o, h1, h2, h3, h4, h5, h6⟩ := st.own ei
    cases h6 with
    | lst rl =>
      refine ⟨_, h1, .inl ⟨rfl, _, .of h5⟩, B, F, S, env, _, st, t, fun d S1 F1 H1 v g1 r1 q1 => ?_⟩
      have st1 := st.go g1
      obtain ⟨a', o', j1, j2, j3, j4, j5, j6⟩ := st1.own ei
      rw [h1] at j1
      cases j1
      cases j6 with
      | lst rl' =>
        refine ⟨a, _, v, rfl, rfl, j5, by rw [rl'.length]; exact q1.1, ?_⟩
        obtain ⟨g2, st2⟩ := st1.write (g.trans g1) ei h1 (.lst (rl'.append (.one r1)))
        exact k.nx _ _ _ _ _ g1.ff g2 st2 q1.2
  · exact t.elim
/-- x[i] = e at a slot of one's own -/
def setOf (K : PySem.W.Frag) : L2.TSet := fun o i v H Q => ∃ a vs n j, o = .ref a ∧ i = .int n ∧ H a = some (.lst vs) ∧ L2.ixN vs.length n = some j ∧ Q (upd H a (.lst (vs.set j v)))
theorem putD_rep {K : PySem.W.Frag} {F : Hp} {o : HO} {d dn dv : D} {iv v : V} {k : D → Prop} (r : OwnR K F o d) (ri : Rep K F iv dn) (rv : Rep K F v dv) (t : putD d dn dv k) :
    ∃ vs n j d', o = .lst vs ∧ iv = .int n ∧ L2.ixN vs.length n = some j ∧ OwnR K F (.lst (vs.set j v)) d' ∧ k d' := by
  unfold putD at t
  split at t
  · cases r with
    | lst rl =>
      have e := rep_int ri
      subst e
      split at t
      · rename_i j e
        exact ⟨_, _, j, _, rfl, rfl, by rw [rl.length]; exact e, .lst (RepL.set rv j rl), t⟩
      · exact t.elim
  · exact t.elim
theorem ds_put {i : Nat} {x : PySem.Str} {p pos' : Pos} {ix : Expr} (he : DE X e T) (hix : DE X ix Ti) (hN : X.N[i]? = some x := by rfl) (hv : Vis X.env.scope x := by first | exact Or.inl rfl | exact Or.inr (Or.inl rfl) | exact Or.inr (Or.inr rfl)) (hd : (x == ("__debug__" : PySem.Str)) = false := by decide)
    (hcd : (x == ("__classdict__" : PySem.Str)) = false := by decide) (ha : ∀ v, assign (.Subscript (.Name x p) ix pos') X.env v = (do
      let ov ← holding [v] (eval (.Name x p) X.env)
      let iv ← holding [v, ov] (eval ix X.env)
      standAt pos'
      holding [v, ov, iv] (setItem ov iv v)
      release [v, ov, iv] []) := by intro _; rfl) (hs : swapsWithSole [.Subscript (.Name x p) ix pos'] e pos.line X.env = pure false := by rfl) (hw : swappedStores [.Subscript (.Name x p) ix pos'] e X.env = pure none := by rfl) :
    DS X (.Assign [.Subscript (.Name x p) ix pos'] e pos) (sPut i Ti T) :=
  ps_weak (ps_asg he (pg_sub (pe_var hN hv hd hcd) hix set_list ha) hs hw) fun D σ H ⟨F0, S0, B, F, S, env, KD, g, st, t, k⟩ => by
  unfold sPut at t
  split at t
  · rename_i d0 ei
    obtain ⟨a, o, h1, h2, h3, h4, h5, h6⟩ := st.own ei
    refine ⟨B, F, S, env, _, st, t, fun d S1 F1 H1 v g1 r1 q1 => ⟨_, h1, B, F1, S1, env, _, st.go g1, q1, fun dn S2 F2 H2 iv g2 r2 q2 => ?_⟩⟩
    have st2 := (st.go g1).go g2
    obtain ⟨a', o', j1, j2, j3, j4, j5, j6⟩ := st2.own ei
    rw [h1] at j1
    cases j1
    obtain ⟨vs, n, j, d', rfl, rfl, e1, r', q3⟩ := putD_rep j6 r2 (r1.mono g2.ff) q2
    obtain ⟨g3, st3⟩ := st2.write (g.trans (g1.trans g2)) ei h1 r'
    exact ⟨a, vs, n, j, rfl, rfl, j5, e1, k.nx _ _ _ _ _ (g1.trans g2).ff g3 st3 q3⟩
  · exact t.elim
end
end DL

end
section
set_option linter.all false
set_option maxRecDepth 100000
set_option autoImplicit false
/-! The data layer: several names at once; x[i] op= e; x = xs.pop(). -/
namespace DL
open PySem L2 PyProof.Rows

def ownsV : List V → List Sl → List Addr
  | .ref a :: vs, .own _ :: sl => a :: ownsV vs sl
  | _ :: vs, _ :: sl => ownsV vs sl
  | _, _ => []
inductive PendL (K : PySem.W.Frag) (Hs F S H : Hp) : List V → List Sl → Prop
  | nil : PendL K Hs F S H [] []
  | val {v : V} {d : D} {vs : List V} {sl : List Sl} : Rep K F v d → PendL K Hs F S H vs sl → PendL K Hs F S H (v :: vs) (.val d :: sl)
  | own {a : Addr} {o : HO} {d : D} {vs : List V} {sl : List Sl} : Hs a = none → F a = none → S a = none → H a = some o → OwnR K F o d → a ∉ ownsV vs sl → PendL K Hs F S H vs sl → PendL K Hs F S H (.ref a :: vs) (.own d :: sl)
section
variable {K : PySem.W.Frag} {Hs F S H F' S' H' : Hp} {vs : List V} {sl : List Sl}
theorem ownsV_val {v : V} {d : D} : ownsV (v :: vs) (.val d :: sl) = ownsV vs sl := by cases v <;> rfl
theorem fresh_go {a : Addr} {o : HO} (g : Go F S H F' S' H') (f : F a = none) (s : S a = none) (h : H a = some o) : F' a = none ∧ S' a = none ∧ H' a = some o := by
  refine ⟨?_, ?_, g.keep _ _ h s⟩
  · cases z : F' a with
    | none => rfl
    | some u =>
      rcases g.nf a (by rw [z]; exact fun z => nomatch z) with y | y
      · exact absurd f y
      · rw [h] at y; cases y
  · cases z : S' a with
    | none => rfl
    | some u =>
      rcases g.ns a (by rw [z]; exact fun z => nomatch z) with y | y
      · exact absurd s y
      · rw [h] at y; cases y
theorem PendL.go (g : Go F S H F' S' H') (p : PendL K Hs F S H vs sl) : PendL K Hs F' S' H' vs sl := by
  induction p with
  | nil => exact .nil
  | val r _ ih => exact .val (r.mono g.ff) ih
  | own h0 f s h r d _ ih =>
    obtain ⟨f', s', h'⟩ := fresh_go g f s h
    exact .own h0 f' s' h' (r.mono g.ff) d ih
theorem PendL.back {H0 : Hp} (d : ∀ a, Hs a = none → H0 a = none) (p : PendL K Hs F S H vs sl) : PendL K H0 F S H vs sl := by
  induction p with
  | nil => exact .nil
  | val r _ ih => exact .val r ih
  | own h0 f s h r e _ ih => exact .own (d _ h0) f s h r e ih
theorem PendL.hs (p : PendL K Hs F S H vs sl) : ∀ a ∈ ownsV vs sl, Hs a = none := by
  induction p with
  | nil => intro a h; cases h
  | val r _ ih => intro a h; rw [ownsV_val] at h; exact ih a h
  | own h0 f s h r e _ ih =>
    intro a h
    rcases List.mem_cons.mp h with z | z
    · rw [z]; exact h0
    · exact ih a z
theorem PendL.len (p : PendL K Hs F S H vs sl) : vs.length = sl.length := by
  induction p with
  | nil => rfl
  | val r _ ih => rw [List.length_cons, List.length_cons, ih]
  | own h0 f s h r e _ ih => rw [List.length_cons, List.length_cons, ih]
end
def putV : List Nat → List V → L2.St → L2.St
  | i :: is, v :: vs, σ => putV is vs (σ.set i (some v))
  | _, _, σ => σ
theorem StR.puts {K : PySem.W.Frag} {Hs B F S H : Hp} : ∀ {is : List Nat} {vs : List V} {sl : List Sl} {env : Env} {σ : L2.St}, (∀ a, Hs a = none → B a = none) → PendL K Hs F S H vs sl → StR K B F S env σ H →
    (∀ (j : Nat) (d : D) (a : Addr), env[j]? = some (.own d) → σ[j]? = some (some (.ref a)) → a ∉ ownsV vs sl) → StR K B F S (putSl is sl env) (putV is vs σ) H
  | [], vs, sl, env, σ, hb, p, st, hn => by
    have e1 : putSl [] sl env = env := by cases sl <;> rfl
    have e2 : putV [] vs σ = σ := by cases vs <;> rfl
    rw [e1, e2]; exact st
  | i :: is, _, _, env, σ, hb, .nil, st, hn => st
  | i :: is, _, _, env, σ, hb, .val r p, st, hn => by
    refine StR.puts (is := is) hb p (st.set i r) fun j d a h1 h2 => ?_
    by_cases e : i = j
    · subst e
      have hi : i < env.length := by have := (List.getElem?_eq_some_iff.mp h1).1; simpa using this
      rw [List.getElem?_set_self hi] at h1; cases h1
    · rw [List.getElem?_set_ne e] at h1 h2
      have := hn j d a h1 h2
      rw [ownsV_val] at this
      exact this
  | i :: is, _, _, env, σ, hb, .own h0 f s h r e p, st, hn => by
    rename_i a o d0 vs sl
    refine StR.puts (is := is) hb p (st.setOwn i (hb _ h0) f s h r fun j d' q z => hn j d' a q z List.mem_cons_self) fun j d a' h1 h2 => ?_
    by_cases ej : i = j
    · subst ej
      have hi : i < σ.length := by have := (List.getElem?_eq_some_iff.mp h2).1; simpa using this
      rw [List.getElem?_set_self hi] at h2
      cases h2
      exact e
    · rw [List.getElem?_set_ne ej] at h1 h2
      exact fun z => hn j d a' h1 h2 (List.mem_cons_of_mem _ z)
def liftP (K : PySem.W.Frag) (p : Par Hp) : L2.TA := fun σ H Qs => ∃ B F S env Q, StR K B F S env σ H ∧ p.run env S Q ∧ ∀ sl S' F' H' vs, Go F S H F' S' H' → PendL K H F' S' H' vs sl → sl.length = p.idx.length → Q sl S' → Qs vs H'
def DP (X : Cx) (es : List Expr) (p : Par Hp) : Prop := PA X es (liftP X.K p)
section
variable {X : Cx} {e a b c o : Expr} {es : List Expr} {T Ta Tb Tc Ti : TE Hp} {pos : Pos} {p : Par Hp}
theorem dp_nil : DP X [] .nil := pa_weak pa_nil fun σ H Qs ⟨B, F, S, env, Q, st, t, k⟩ => k [] S F H [] (Go.refl st.ok) .nil rfl t
theorem dp_val {i : Nat} (ha : DE X e T) (hr : DP X es p) (hs : starEach (e :: es) X.env = (false, eval e X.env) :: starEach es X.env := by rfl) : DP X (e :: es) (.val i T p) := pa_weak (pa_cons ha hr hs) fun σ H Qs ⟨B, F, S, env, Q, st, t, k⟩ =>
  ⟨B, F, S, env, _, st, t, fun d S1 F1 H1 v g1 r1 q1 => ⟨B, F1, S1, env, _, st.go g1, q1, fun sl S2 F2 H2 vs g2 pd l q2 =>
    k (.val d :: sl) S2 F2 H2 (v :: vs) (g1.trans g2) (.val (r1.mono g2.ff) (pd.back fun a h => none_of_dom g1 h)) (by show sl.length + 1 = p.idx.length + 1; rw [l]) q2⟩⟩
theorem dp_own {i : Nat} (ha : DF X e T) (hr : DP X es p) (hs : starEach (e :: es) X.env = (false, eval e X.env) :: starEach es X.env := by rfl) : DP X (e :: es) (.own i T p) := pa_weak (pa_cons ha hr hs) fun σ H Qs ⟨B, F, S, env, Q, st, t, k⟩ =>
  ⟨B, F, S, env, _, st, t, fun d S1 F1 H1 a o g1 hp fp sp hh r1 q1 => ⟨B, F1, S1, env, _, st.go g1, q1, fun sl S2 F2 H2 vs g2 pd l q2 => by
    obtain ⟨f', s', h'⟩ := fresh_go g2 fp sp hh
    exact k (.own d :: sl) S2 F2 H2 (.ref a :: vs) (g1.trans g2) (.own hp f' s' h' (r1.mono g2.ff) (fun z => by
      have := pd.hs a z
      rw [hh] at this
      cases this) (pd.back fun a h => none_of_dom g1 h)) (by show sl.length + 1 = p.idx.length + 1; rw [l]) q2⟩⟩
theorem pend_st {F0 S0 B F S H F1 S1 H1 : Hp} {env : Env} {σ : L2.St} {vs : List V} {sl : List Sl} {is : List Nat} (g : Go F0 S0 B F S H) (st : StR X.K B F S env σ H) (g1 : Go F S H F1 S1 H1) (pd : PendL X.K H F1 S1 H1 vs sl) :
    StR X.K B F1 S1 (putSl is sl env) (putV is vs σ) H1 :=
  StR.puts (fun a h => none_of_dom g h) pd (st.go g1) fun j d a h1 h2 z => by
    obtain ⟨a', o, j1, j2, j3, j4, j5, j6⟩ := st.own h1
    rw [h2] at j1
    cases j1
    have := pd.hs a z
    rw [j5] at this
    cases this
/-- two plain local names -/
theorem ds_par2 {i j : Nat} {x y : PySem.Str} {px py pt : Pos} {kt k2 : Nat} {pt2 : Pos} (ha : DP X [a, b] p) (hN : X.N.Nodup) (hij : i ≠ j) (hp : p.idx = [i, j] := by rfl) (hw : swappedStores [.Tuple [.Name x px, .Name y py] kt pt] (.Tuple [a, b] k2 pt2) X.env = pure (some [x, y]) := by rfl)
    (hi : X.N[i]? = some x := by rfl) (hj : X.N[j]? = some y := by rfl) (hx : X.env.scope.names.lookup x = some .local := by rfl) (hy : X.env.scope.names.lookup y = some .local := by rfl) (hc : X.calm = true := by rfl)
    (hs : swapsWithSole [.Tuple [.Name x px, .Name y py] kt pt] (.Tuple [a, b] k2 pt2) pos.line X.env = pure false := by rfl) :
    DS X (.Assign [.Tuple [.Name x px, .Name y py] kt pt] (.Tuple [a, b] k2 pt2) pos) (sPar p) := ps_weak (ps_par hc hN hi hj hij hx hy ha hw hs) fun D σ H ⟨F0, S0, B, F, S, env, KD, g, st, t, k⟩ => by
  refine ⟨B, F, S, env, _, st, t, fun sl S1 F1 H1 vs g1 pd l q1 => ?_⟩
  have st1 := pend_st (is := p.idx) g st g1 pd
  have lv := pd.len
  rw [hp] at l st1
  rw [hp] at q1
  match vs, lv, st1 with
  | [v, w], _, st1 => exact ⟨v, w, rfl, k.nx _ _ _ _ _ g1.ff (g.trans g1) st1 q1⟩
  | [], lv, _ => rw [← lv] at l; cases l
  | [_], lv, _ => rw [← lv] at l; cases l
  | _ :: _ :: _ :: _, lv, _ => rw [← lv] at l; simp at l
/-- three plain local names -/
theorem ds_par3 {i j l : Nat} {x y z : PySem.Str} {c : Expr} {px py pz pt : Pos} {kt k2 : Nat} {pt2 : Pos} (ha : DP X [a, b, c] p) (hN : X.N.Nodup) (hij : i ≠ j) (hil : i ≠ l) (hjl : j ≠ l) (hp : p.idx = [i, j, l] := by rfl) (hw : swappedStores [.Tuple [.Name x px, .Name y py, .Name z pz] kt pt] (.Tuple [a, b, c] k2 pt2) X.env = pure (some [x, y, z]) := by rfl)
    (hi : X.N[i]? = some x := by rfl) (hj : X.N[j]? = some y := by rfl) (hl : X.N[l]? = some z := by rfl) (hx : X.env.scope.names.lookup x = some .local := by rfl) (hy : X.env.scope.names.lookup y = some .local := by rfl) (hz : X.env.scope.names.lookup z = some .local := by rfl) (hc : X.calm = true := by rfl)
    (hs : swapsWithSole [.Tuple [.Name x px, .Name y py, .Name z pz] kt pt] (.Tuple [a, b, c] k2 pt2) pos.line X.env = pure false := by rfl) :
    DS X (.Assign [.Tuple [.Name x px, .Name y py, .Name z pz] kt pt] (.Tuple [a, b, c] k2 pt2) pos) (sPar p) := ps_weak (ps_par3 hc hN hi hj hl hij hil hjl hx hy hz ha hw hs) fun D σ H ⟨F0, S0, B, F, S, env, KD, g, st, t, k⟩ => by
  refine ⟨B, F, S, env, _, st, t, fun sl S1 F1 H1 vs g1 pd l q1 => ?_⟩
  have st1 := pend_st (is := p.idx) g st g1 pd
  have lv := pd.len
  rw [hp] at l st1
  rw [hp] at q1
  match vs, lv, st1 with
  | [v, w, u], _, st1 => exact ⟨v, w, u, rfl, k.nx _ _ _ _ _ g1.ff (g.trans g1) st1 q1⟩
  | [], lv, _ => rw [← lv] at l; cases l
  | [_], lv, _ => rw [← lv] at l; cases l
  | [_, _], lv, _ => rw [← lv] at l; cases l
  | _ :: _ :: _ :: _ :: _, lv, _ => rw [← lv] at l; simp at l
theorem gPs_names {K : PySem.W.Frag} {H : Hp} : ∀ {is : List Nat} {vs : List V} {σ : L2.St} {Q : L2.St → Hp → Prop}, vs.length = is.length → Q (putV is vs σ) H → gPs K (is.map .nm) vs σ H Q
  | [], [], σ, Q, _, q => ⟨rfl, q⟩
  | i :: is, v :: vs, σ, Q, l, q => ⟨v, vs, rfl, gPs_names (is := is) (by simpa using l) q⟩
/-- by a tuple -/
theorem ds_parT {tg : List Expr} {kt k2 : Nat} {pt pt2 : Pos} (ha : DP X es p) (hg : PG X (.Tuple tg kt pt) (gP X.K (.tp (p.idx.map .nm)))) (hsz : p.idx.length ≤ sizeLine := by exact Nat.le_of_ble_eq_true rfl)
    (hw : swappedStores [.Tuple tg kt pt] (.Tuple es k2 pt2) X.env = pure none := by rfl) (hs : swapsWithSole [.Tuple tg kt pt] (.Tuple es k2 pt2) pos.line X.env = pure false := by rfl) :
    DS X (.Assign [.Tuple tg kt pt] (.Tuple es k2 pt2) pos) (sPar p) := ps_weak (ps_asg (pe_tup ha) hg hs hw) fun D σ H ⟨F0, S0, B, F, S, env, KD, g, st, t, k⟩ => by
  refine ⟨B, F, S, env, _, st, t, fun sl S1 F1 H1 vs g1 pd l q1 => ⟨by rw [pd.len, l]; exact hsz, fun q hq => ?_⟩⟩
  have g2 := g1.trans (Go.newH g1.ok hq (.tup vs))
  have st1 := pend_st (is := p.idx) g st g2 (pd.go (Go.newH g1.ok hq (.tup vs)))
  have lv : vs.length = p.idx.length := by rw [pd.len, l]
  exact ⟨q, vs, rfl, .of upd_same, by rw [lv, List.length_map], gPs_names lv (k.nx _ _ _ _ _ g2.ff (g.trans g2) st1 q1)⟩
/-- p = e, p a written tuple of targets, e any other expression -/
theorem ds_unp {pt : Pat} {tg : Expr} (he : DE X e T) (hg : PG X tg (gP X.K pt)) (hs : swapsWithSole [tg] e pos.line X.env = pure false := by rfl) (hw : swappedStores [tg] e X.env = pure none := by rfl) (h1 : (assignEach [tg] X.env).map (·.2) = [assign tg X.env] := by rfl) : DS X (.Assign [tg] e pos) (sUnp pt T) :=
  ps_weak (ps_asg he hg hs hw h1) fun D σ H ⟨F0, S0, B, F, S, env, KD, g, st, t, k⟩ => by
  refine ⟨B, F, S, env, _, st, t, fun d S1 F1 H1 v g1 r1 q1 => ?_⟩
  split at q1
  · rename_i env' e'
    exact put_ok pt e' (st.go g1) r1 fun σ' st' _ => k.nx _ _ _ _ _ g1.ff (g.trans g1) st' q1
  · exact q1.elim

/-! ### x[i] op= e -/
theorem pget_list : PGet X (rIxL X.K) := by
  intro pins s σ H o i ov iv Q I ro ri h
  obtain ⟨p, xs, n, z, rfl, rfl, hq, he, q⟩ := h
  cases ro
  obtain ⟨t, rfl⟩ := ri
  obtain ⟨its, r, pl, hz⟩ := I.list hq
  obtain ⟨j, h1, h2, h3, h4, h5⟩ := atI_get he
  obtain ⟨w, ew, rw'⟩ := r.get h2
  have hl := r.length
  have hn := line63
  by_cases h0 : 0 ≤ n
  · have hj : n.toNat = j := by
      rw [seqIndex_of h0 h5] at h1
      exact Option.some.inj h1
    exact wpAny_getItem_list pl.isList h0 (by omega) (by rw [hj]; simpa using ew) ⟨z, H, I, rw', q⟩
  · have hj : (n + (its.toArray.size : Int)).toNat = j := by
      rw [seqIndex_neg (by omega) h4] at h1
      rw [List.size_toArray, ← hl]
      exact Option.some.inj h1
    exact wpAny_getItem_list_neg pl.isList (by omega) (by rw [List.size_toArray] <;> omega) (by omega) (by rw [hj]; simpa using ew) ⟨z, H, I, rw', q⟩
theorem i_inc : PIp X .Add (rOf X.K opInc) := by
  intro pins s σ H x y v u Qv I rx ry ⟨F, S, dx, dy, k, ok, r1, r2, t, kk⟩
  unfold opInc at t
  split at t
  · have e1 := r1.int; have e2 := r2.int; subst e1; subst e2
    exact iop_add pins s σ H _ _ v u _ I rx ry ⟨_, _, rfl, rfl, kk _ F H _ (Go.refl ok) (.int _) t⟩
  · exact t.elim
theorem i_sub : PIp X .Sub (rOf X.K opSub) := by
  intro pins s σ H x y v u Qv I rx ry ⟨F, S, dx, dy, k, ok, r1, r2, t, kk⟩
  unfold opSub at t
  split at t
  · have e1 := r1.int; have e2 := r2.int; subst e1; subst e2
    exact iop_sub pins s σ H _ _ v u _ I rx ry ⟨_, _, rfl, rfl, kk _ F H _ (Go.refl ok) (.int _) t⟩
  · exact t.elim
theorem getD_rep {F : Hp} {o : HO} {d dn : D} {iv : V} {k : D → Prop} (r : OwnR X.K F o d) (ri : Rep X.K F iv dn) (t : getD' d dn k) : ∃ vs n z x, o = .lst vs ∧ iv = .int n ∧ atI vs n = some z ∧ Rep X.K F z x ∧ k x := by
  unfold getD' at t
  split at t
  · cases r with
    | lst rl =>
      have e := rep_int ri
      subst e
      obtain ⟨z, x, e1, e2, e3⟩ := atD_rep rl t
      exact ⟨_, _, z, x, rfl, rfl, e1, e2, e3⟩
  · exact t.elim
theorem ds_augIx {i : Nat} {x : PySem.Str} {p tpos : Pos} {ix : Expr} {op : Operator} {f : Op2} (ho : PIp X op (rOf X.K f)) (hix : DE X ix Ti) (he : DE X e T) (hN : X.N[i]? = some x := by rfl) (hv : Vis X.env.scope x := by first | exact Or.inl rfl | exact Or.inr (Or.inl rfl) | exact Or.inr (Or.inr rfl)) (hd : (x == ("__debug__" : PySem.Str)) = false := by decide)
    (hcd : (x == ("__classdict__" : PySem.Str)) = false := by decide) (ha : ∀ ov iv new, augStore ix ov iv new = (do holding [new, ov, iv] (setItem ov iv new); release [new, ov, iv] []; pure .next) := by intros; rfl) :
    DS X (.AugAssign (.Subscript (.Name x p) ix tpos) op e pos) (sAugIx i Ti f T) := ps_weak (ps_augS (pe_var hN hv hd hcd) hix pget_list he ho set_list ha) fun D σ H ⟨F0, S0, B, F, S, env, KD, g, st, t, k⟩ => by
  unfold sAugIx at t
  split at t
  · rename_i d0 ei
    obtain ⟨a, o, h1, h2, h3, h4, h5, h6⟩ := st.own ei
    refine ⟨_, h1, B, F, S, env, _, st, t, fun dn S1 F1 H1 iv g1 r1 q1 => ?_⟩
    have st1 := st.go g1
    obtain ⟨a1, o1, j1, j2, j3, j4, j5, j6⟩ := st1.own ei
    rw [h1] at j1
    cases j1
    obtain ⟨vs, n, z, dx, rfl, rfl, e1, rz, q1⟩ := getD_rep j6 r1 q1
    refine ⟨a, vs, n, z, rfl, rfl, .of j5, e1, B, F1, S1, env, _, st1, q1, fun dy S2 F2 H2 w g2 r2 q2 => ?_⟩
    refine ⟨F2, S2, dx, dy, _, g2.ok, .inl (rz.mono g2.ff), .inl r2, q2, fun dz F3 H3 w3 g3 r3 q3 => ?_⟩
    have st3 := (st1.go g2).go g3
    obtain ⟨a3, o3, l1, l2, l3, l4, l5, l6⟩ := st3.own ei
    rw [h1] at l1
    cases l1
    have r1' : Rep X.K F3 (.int n) dn := (r1.mono g2.ff).mono g3.ff
    obtain ⟨vs3, n3, j, d', rfl, e3, e4, r', q4⟩ := putD_rep l6 r1' r3 q3
    cases e3
    obtain ⟨g4, st4⟩ := st3.write (g.trans ((g1.trans g2).trans g3)) ei h1 r'
    exact ⟨a, vs3, n, j, rfl, rfl, l5, e4, k.nx _ _ _ _ _ ((g1.trans g2).trans g3).ff g4 st4 q4⟩
  · exact t.elim

/-! ### isinstance -/
theorem rep_ty {F S H : Hp} {v : V} {d : D} {t : String} (ok : HOK F S H) (r : RepB X.K F S H v d) (h : tyOf d = some t) : TyX X.K H v (.type t) := by
  cases d with
  | non => cases h; cases r.non; exact .base .non
  | bl b => cases h; cases r.bl; exact .base (.bl _)
  | int i => cases h; cases r.int; exact .base (.int _)
  | str x => cases h; cases r.str; exact .base (.str _)
  | tup xs =>
    cases h
    obtain ⟨a, vs, rfl, q, rl⟩ := r.tup ok
    rcases q with (q | ⟨o, q⟩) | ⟨o, its, n, q1, q2, _⟩
    · exact .base (.tup q)
    · exact .fTuple q
    · exact .kTuple q1 q2
  | lst xs =>
    cases h
    obtain ⟨a, vs, rfl, q, rl⟩ := r.list ok
    exact .base (.lst q)
  | dK kvs =>
    cases h
    rcases r with r | ⟨a, o, rfl, hs, hh, r⟩
    · cases r with
      | dK h1 _ _ _ => exact .base (.dK (ok.fh _ _ h1))
    · cases r with
      | dK _ _ => exact .base (.dK hh)
  | dT kvs =>
    cases h
    rcases r with r | ⟨a, o, rfl, hs, hh, r⟩
    · cases r with
      | dT h1 _ _ _ => exact .base (.dT (ok.fh _ _ h1))
    · cases r with
      | dT _ _ => exact .base (.dT hh)
  | _ => cases h
/-- what isinstance tells of the built-in classes that are asked about -/
def IsiOk (n : String) : Prop := ∀ t ∈ ["NoneType", "bool", "int", "str", "tuple", "list", "dict"], kitB t n = some (subTy t n)
theorem tyOf_mem {d : D} {t : String} (h : tyOf d = some t) : t ∈ ["NoneType", "bool", "int", "str", "tuple", "list", "dict"] := by
  cases d <;> simp only [tyOf, Option.some.injEq, reduceCtorEq] at h <;> subst h <;> decide
theorem isi_int : IsiOk "int" := by unfold IsiOk; decide +kernel
theorem isi_bool : IsiOk "bool" := by unfold IsiOk; decide +kernel
theorem isi_str : IsiOk "str" := by unfold IsiOk; decide +kernel
theorem isi_tuple : IsiOk "tuple" := by unfold IsiOk; decide +kernel
theorem isi_list : IsiOk "list" := by unfold IsiOk; decide +kernel
theorem isi_dict : IsiOk "dict" := by unfold IsiOk; decide +kernel
theorem o_isi {n : String} {p p2 : Pos} {tx : PySem.Str} (ha : DB X e T) (ok : IsiOk n) (hm : X.mg "isinstance" = none) (hmt : X.mg tx = none) (hbt : bootBuiltins tx = some (.type n))
    (hv : bootBuiltins "isinstance" = some (.builtin "isinstance")) (hg : Gl X "isinstance" := by rfl) (hgt : Gl X tx := by rfl) (hnt : tx ≠ "__name__" := by decide) (hdt : (tx == ("__debug__" : PySem.Str)) = false := by decide)
    (he : starEach [e, .Name tx p2] X.env = (false, eval e X.env) :: starEach [.Name tx p2] X.env := by rfl) (he2 : starEach [.Name tx p2] X.env = [(false, eval (.Name tx p2) X.env)] := by rfl)
    (hpl : (backTo pos (starEach [.Name tx p2] X.env)).any (·.1) = false := by rfl) : DE X (.Call (.Name "isinstance" p) [e, .Name tx p2] [] pos) (eIsI n T) :=
  pe_weak (pe_callB call_isi hg hm hv (pa_cons ha (pa_cons (pe_bltn (v := .ty n) hgt hmt hbt rfl hnt hdt) pa_nil he2) he) (by decide) (by decide) he hpl) fun σ H Qv ⟨B, F, S, env, Q, st, t, k⟩ => by
  refine ⟨B, F, S, env, _, st, t, fun d S1 F1 H1 v g1 r1 q1 => ?_⟩
  split at q1
  · rename_i t e
    exact ⟨v, .ty n, _, _, _, rfl, .ty n, rep_ty g1.ok r1 e, kit_ty (ok t (tyOf_mem e)), k _ _ _ _ _ g1 (.bl _) q1⟩
  · exact q1.elim
end
end DL

end
section
set_option linter.all false
set_option maxRecDepth 100000
set_option autoImplicit false
/-! The data layer: chains, and, or, not as values; calls of defs by what is known of them. -/
namespace DL
open PySem L2 PyProof.Rows
section
variable {X : Cx} {e a b c : Expr} {es rest : List Expr} {T Ta Tb Tc : TE Hp} {pos : Pos} {op op' : CmpOp} {f g : Op2}
theorem de_chain (ho : OpR X (compareOp op) (rOf X.K f)) (ho' : OpR X (compareOp op') (rOf X.K g)) (ha : DB X a Ta) (hb : DB X b Tb) (hc : DB X c Tc) (hm : lastMarks [op, op'] [b, c] = false := by with_unfolding_all rfl) :
    DE X (.Compare a [op, op'] [b, c] pos) (eChain f g Ta Tb Tc) := pe_weak (pe_chain ho ho' ha hb hc hm) fun σ H Qv ⟨B, F, S, env, Q, st, t, k⟩ => by
  refine ⟨B, F, S, env, _, st, t, fun dx S1 F1 H1 x g1 r1 q1 => ⟨B, F1, S1, env, _, st.go g1, q1, fun dy S2 F2 H2 y g2 r2 q2 => ?_⟩⟩
  refine ⟨F2, S2, dx, dy, _, g2.ok, r1.go g2, r2, q2, fun dz F3 H3 z g3 r3 q3 => ?_⟩
  have gg := (g1.trans g2).trans g3
  split at q3
  · cases r3
    refine ⟨true, rfl, iteT ?_⟩
    refine ⟨B, F3, S2, env, _, st.go gg, q3, fun dw S4 F4 H4 w g4 r4 q4 => ?_⟩
    exact ⟨F4, S4, dy, dw, _, g4.ok, (r2.go g3).go g4, r4, q4, fun d F5 H5 v g5 r5 q5 => k d S4 F5 H5 v (gg.trans (g4.trans g5)) r5 q5⟩
  · cases r3
    exact ⟨false, rfl, iteF (k _ _ _ _ _ gg (.bl _) q3)⟩
  · exact q3.elim
theorem dt_chain (ho : OpR X (compareOp op) (rOf X.K f)) (ho' : OpR X (compareOp op') (rOf X.K g)) (ha : DB X a Ta) (hb : DB X b Tb) (hc : DB X c Tc) (hm : lastMarks [op, op'] [b, c] = false := by with_unfolding_all rfl) :
    DT X (.Compare a [op, op'] [b, c] pos) (DL.tChain f g Ta Tb Tc) := pt_weak (pt_chain ho ho' ha hb hc hm) fun σ H Qb ⟨B, F, S, env, Q, st, t, k⟩ => by
  refine ⟨B, F, S, env, _, st, t, fun dx S1 F1 H1 x g1 r1 q1 => ⟨B, F1, S1, env, _, st.go g1, q1, fun dy S2 F2 H2 y g2 r2 q2 => ?_⟩⟩
  refine ⟨F2, S2, dx, dy, _, g2.ok, r1.go g2, r2, q2, fun dz F3 H3 z g3 r3 q3 => ?_⟩
  have gg := (g1.trans g2).trans g3
  split at q3
  · cases r3
    refine ⟨true, rfl, iteT ?_⟩
    refine ⟨B, F3, S2, env, _, st.go gg, q3, fun dw S4 F4 H4 w g4 r4 q4 => ?_⟩
    refine ⟨F4, S4, dy, dw, _, g4.ok, (r2.go g3).go g4, r4, q4, fun d F5 H5 v g5 r5 q5 => ?_⟩
    split at q5
    · cases r5
      exact ⟨_, rfl, k _ S4 F5 H5 (gg.trans (g4.trans g5)) q5⟩
    · exact q5.elim
  · cases r3
    exact ⟨false, rfl, iteF ⟨false, rfl, k _ _ _ _ gg q3⟩⟩
  · exact q3.elim
theorem de_not (ha : DB X a Ta) : DE X (.UnaryOp .Not a pos) (eNot Ta) := pe_weak (pe_notT ha) fun σ H Qv ⟨B, F, S, env, Q, st, t, k⟩ => ⟨B, F, S, env, _, st, t, fun d S1 F1 H1 v g1 r1 q1 => by
  obtain ⟨b, h1, h2⟩ := rep_truth g1.ok r1 q1
  exact ⟨b, h1, k _ S1 F1 H1 _ g1 (.bl _) h2⟩⟩
theorem de_one {o : BoolOp} (h : DE X a Ta) : DE X (.BoolOp o [a] pos) Ta := pe_one h
theorem de_and (ha : DE X a Ta) (hb : DE X (.BoolOp .And (b :: rest) pos) Tb) : DE X (.BoolOp .And (a :: b :: rest) pos) (eAnd Ta Tb) := pe_weak (pe_andT ha hb) fun σ H Qv ⟨B, F, S, env, Q, st, t, k⟩ => ⟨B, F, S, env, _, st, t, fun d S1 F1 H1 v g1 r1 q1 => by
  obtain ⟨b, h1, h2⟩ := rep_truth g1.ok (.inl r1) q1
  refine ⟨b, h1, ?_⟩
  cases b with
  | true => rw [if_pos rfl] at h2; exact iteT ⟨B, F1, S1, env, _, st.go g1, h2, fun d S2 F2 H2 v g2 r2 q2 => k _ _ _ _ _ (g1.trans g2) r2 q2⟩
  | false => rw [if_neg Bool.false_ne_true] at h2; exact iteF (k _ _ _ _ _ g1 r1 h2)⟩
theorem de_or (ha : DE X a Ta) (hb : DE X (.BoolOp .Or (b :: rest) pos) Tb) : DE X (.BoolOp .Or (a :: b :: rest) pos) (eOr Ta Tb) := pe_weak (pe_orT ha hb) fun σ H Qv ⟨B, F, S, env, Q, st, t, k⟩ => ⟨B, F, S, env, _, st, t, fun d S1 F1 H1 v g1 r1 q1 => by
  obtain ⟨b, h1, h2⟩ := rep_truth g1.ok (.inl r1) q1
  refine ⟨b, h1, ?_⟩
  cases b with
  | false => rw [if_neg Bool.false_ne_true] at h2; exact iteF ⟨B, F1, S1, env, _, st.go g1, h2, fun d S2 F2 H2 v g2 r2 q2 => k _ _ _ _ _ (g1.trans g2) r2 q2⟩
  | true => rw [if_pos rfl] at h2; exact iteT (k _ _ _ _ _ g1 r1 h2)⟩
end

theorem _root_.L2.Room.units65 {k : Nat} {A : Around} (r : Room k A) : A.units + 65 < cLine := by have := r.un; omega
/-- what is known of a def: it keeps the promise f at a level -/
def Has (P : Program) (w : World) (K : PySem.W.Frag) (mg : PySem.Str → Option Value) (base : Heap) (x : PySem.Str) (lv : Nat) (ps : List PySem.Str) (f : FS Hp) : Prop :=
  ∃ (g : Addr) (fd : FuncData), FnOk P w K mg base CX0 lv g fd ps (spOf K ps.length f) ∧ mg x = some (.ref g) ∧ PySem.W.keepIn K (.ref g) = true ∧ Binds K fd ps []
section
variable {X : Cx} {e a b c : Expr} {es : List Expr} {r : TA Hp} {pos p : Pos} {x : PySem.Str} {lv : Nat} {ps : List PySem.Str} {f : FS Hp} {ex : D → Hp → Prop}
theorem de_callH (h : Has X.prog X.w X.K X.mg X.base x lv ps f) (hr : Room lv X.A) (ha : DA X (e :: es) r) (hl : (e :: es).length = ps.length := by rfl) (hg : Gl X x := by rfl) (hdb : (x == ("__debug__" : PySem.Str)) = false := by decide)
    (he : starEach (e :: es) X.env = (false, eval e X.env) :: starEach es X.env := by rfl) (hpl : (backTo pos (starEach es X.env)).any (·.1) = false := by rfl) : DE X (.Call (.Name x p) (e :: es) [] pos) (eCall f ex r) := by
  obtain ⟨g, fd, G, hm, hk, hb⟩ := h
  exact de_call G hr hm hk hb pass0 ha hl hg hdb he hpl
end

theorem lookup_kinds {f : PySem.Str × NameKind → PySem.Str × NameKind} (h1 : ∀ p, (f p).1 = p.1) (h2 : ∀ p, (p.2 = .cell ∨ p.2 = .free) → ((f p).2 = .cell ∨ (f p).2 = .free)) :
    ∀ (names : List (PySem.Str × NameKind)) (x : PySem.Str), (names.lookup x = some .cell ∨ names.lookup x = some .free) → ((names.map f).lookup x = some .cell ∨ (names.map f).lookup x = some .free)
  | [], x, h => by simp at h
  | p :: r, x, h => by
    have e1 := h1 p
    have e2 := h2 p
    rw [List.map_cons]
    obtain ⟨n, k⟩ := p
    rcases ef : f (n, k) with ⟨n', k'⟩
    rw [ef] at e1 e2
    have e1 : n' = n := e1
    subst e1
    rw [List.lookup_cons] at h ⊢
    cases q : (x == n') with
    | true =>
      simp only [q] at h ⊢
      have hk : k = .cell ∨ k = .free := by
        rcases h with h | h
        · exact .inl (Option.some.inj h)
        · exact .inr (Option.some.inj h)
      rcases e2 hk with z | z
      · exact .inl (congrArg some z)
      · exact .inr (congrArg some z)
    | false =>
      simp only [q] at h ⊢
      exact lookup_kinds h1 h2 r x h
/-- a block within a block -/
theorem blkOk_in {N : List PySem.Str} {scope1 scope : Scope} {own : List (PySem.Str × Nat)} {env : PySem.Env} {cl : List (PySem.Str × Addr)} {C : Addr} (h : blkC N scope1 scope own = true) : BlkOk N (compEnvC scope1 cl C env).scope scope own := by
  obtain ⟨h1, h2, h3, h4, h5⟩ := blkOk_by h
  refine ⟨h1, h2, h3, fun y hy e => ?_, h5⟩
  refine lookup_kinds (fun p => ?_) (fun p hp => ?_) _ _ (h4 y hy e)
  · obtain ⟨n, k⟩ := p
    dsimp only
    split <;> rfl
  · obtain ⟨n, k⟩ := p
    dsimp only
    split
    · exact .inl rfl
    · exact hp

/-! ### where the names of the built-in things stand -/
theorem bt_len : bootBuiltins "len" = some (.builtin "len") := by decide +kernel
theorem bt_abs : bootBuiltins "abs" = some (.builtin "abs") := by decide +kernel
theorem bt_max : bootBuiltins "max" = some (.builtin "max") := by decide +kernel
theorem bt_min : bootBuiltins "min" = some (.builtin "min") := by decide +kernel
theorem bt_sum : bootBuiltins "sum" = some (.builtin "sum") := by decide +kernel
theorem bt_all : bootBuiltins "all" = some (.builtin "all") := by decide +kernel
theorem bt_any : bootBuiltins "any" = some (.builtin "any") := by decide +kernel
theorem bt_sorted : bootBuiltins "sorted" = some (.builtin "sorted") := by decide +kernel
theorem bt_repr : bootBuiltins "repr" = some (.builtin "repr") := by decide +kernel
theorem bt_isinstance : bootBuiltins "isinstance" = some (.builtin "isinstance") := by decide +kernel
theorem bt_int : bootBuiltins "int" = some (.type "int") := by decide +kernel
theorem bt_bool : bootBuiltins "bool" = some (.type "bool") := by decide +kernel
theorem bt_str : bootBuiltins "str" = some (.type "str") := by decide +kernel
theorem bt_tuple : bootBuiltins "tuple" = some (.type "tuple") := by decide +kernel
theorem bt_list : bootBuiltins "list" = some (.type "list") := by decide +kernel
theorem bt_dict : bootBuiltins "dict" = some (.type "dict") := by decide +kernel
theorem bt_set : bootBuiltins "set" = some (.type "set") := by decide +kernel
end DL

end
section
set_option linter.all false
set_option maxRecDepth 100000
set_option autoImplicit false
/-! The data layer: lists' methods, dicts, calls with keywords. -/
namespace DL
open PySem L2 PyProof.Rows

theorem firstAt_spec {y : D} : ∀ {xs : List D} {j : Nat}, firstAt y xs = some j → ∃ z, (toPys xs)[j]? = some z ∧ PyData.eqv z (toPy y) = true ∧ ∀ (m : Nat) (z' : PyData), m < j → (toPys xs)[m]? = some z' → PyData.eqv z' (toPy y) = false
  | [], j, h => by simp [firstAt] at h
  | x :: xs, j, h => by
    unfold firstAt at h
    split at h
    · rename_i e
      cases h
      exact ⟨_, by simp [toPys], e, fun m z' hm _ => absurd hm (Nat.not_lt_zero m)⟩
    · rename_i e
      rw [Option.map_eq_some_iff] at h
      obtain ⟨i, hi, rfl⟩ := h
      obtain ⟨z, h1, h2, h3⟩ := firstAt_spec hi
      refine ⟨z, by simpa [toPys] using h1, h2, fun m z' hm hz => ?_⟩
      cases m with
      | zero =>
        simp only [toPys, List.getElem?_cons_zero, Option.some.injEq] at hz
        subst hz
        simpa using e
      | succ m => exact h3 m z' (by omega) (by simpa [toPys] using hz)
section
variable {X : Cx} {e a b c o : Expr} {es : List Expr} {T Ta Tb Tc Ti : TE Hp} {pos apos cpos : Pos}
/-- xs.index(y) -/
theorem de_idx (hu : X.A.units + 65 < cLine) (ha : DB X a Ta) (hb : DB X b Tb) (hbase : attributeBase a "index" X.env (eval a X.env) = eval a X.env := by rfl)
    (hfew : ((backTo cpos (starEach [b] X.env)).all (fun x => !x.1) && (backToKw cpos (keywordEach [] X.env)).all (fun x => x.1.isSome) && decide (([b] : List Expr).length + ([] : List Keyword).length + (if ([] : List Keyword).isEmpty then 0 else 1) < 30)) = true := by rfl)
    (hline : (apos.endLine == cpos.line) = true := by rfl) (hs : starEach [b] X.env = (false, eval b X.env) :: starEach [] X.env := by rfl) (hplain : (backTo cpos (starEach [] X.env)).any (·.1) = false := by rfl) :
    DE X (.Call (.Attribute a "index" apos) [b] [] cpos) (eMeL opIdx Ta Tb) :=
  pe_weak (pe_bm PySem.F.plainAttrs_list PySem.F.slot_list_index PySem.F.type_list_index (mt_indexD hu) ha (pa_cons hb pa_nil hs) hbase hfew hline hs hplain) fun σ H Qv ⟨B, F, S, env, Q, st, t, k⟩ => by
  refine ⟨B, F, S, env, _, st, t, fun dx S1 F1 H1 x g1 r1 q1 => ?_⟩
  obtain ⟨isl, q1⟩ := q1
  have tyx : tyV X.K "list" x H1 := by
    cases dx with
    | lst xs => obtain ⟨a, vs, rfl, hx, rl⟩ := r1.list g1.ok; exact .inl ⟨rfl, vs, .of hx⟩
    | _ => exact isl.elim
  refine ⟨tyx, B, F1, S1, env, _, st.go g1, q1, fun dy S2 F2 H2 y g2 r2 q2 => ?_⟩
  unfold opIdx at q2
  split at q2
  · obtain ⟨f1, f2, q3⟩ := q2
    split at q3
    · rename_i j ej
      obtain ⟨z, h1, h2, h3⟩ := firstAt_spec ej
      have r1' := r1.go g2
      obtain ⟨a, vs, rfl, hx, rl⟩ := r1'.list g2.ok
      refine ⟨a, y, _, _, j, z, rfl, rfl, dp_items g2.ok f2 r1', repB_dp g2.ok f1 r2, flats_shaped f2, flat_shaped f1, h1, h2, h3, k _ _ _ _ _ (g1.trans g2) (.int _) q3⟩
    · exact q3.elim
  · exact q2.elim
/-- x.extend(e) -/
theorem ds_ext {i : Nat} {x : PySem.Str} {p apos cpos : Pos} (he : DB X e T) (hN : X.N[i]? = some x := by rfl) (hv : Vis X.env.scope x := by first | exact Or.inl rfl | exact Or.inr (Or.inl rfl) | exact Or.inr (Or.inr rfl)) (hd : (x == ("__debug__" : PySem.Str)) = false := by decide)
    (hcd : (x == ("__classdict__" : PySem.Str)) = false := by decide) (hbase : attributeBase (.Name x p) "extend" X.env (eval (.Name x p) X.env) = eval (.Name x p) X.env := by rfl)
    (hfew : ((backTo cpos (starEach [e] X.env)).all (fun x => !x.1) && (backToKw cpos (keywordEach [] X.env)).all (fun x => x.1.isSome) && decide (([e] : List Expr).length + ([] : List Keyword).length + (if ([] : List Keyword).isEmpty then 0 else 1) < 30)) = true := by rfl)
    (hline : (apos.endLine == cpos.line) = true := by rfl) (hs : starEach [e] X.env = (false, eval e X.env) :: starEach [] X.env := by rfl) (hplain : (backTo cpos (starEach [] X.env)).any (·.1) = false := by rfl)
    (hsw : swapsWith (.Call (.Attribute (.Name x p) "extend" apos) [e] [] cpos) none pos.line X.env = pure false := by rfl) :
    DS X (.Expr (.Call (.Attribute (.Name x p) "extend" apos) [e] [] cpos) pos) (sExt i T) :=
  ps_weak (ps_expr (pe_bm PySem.F.plainAttrs_list PySem.F.slot_list_extend PySem.F.type_list_extend mt_extend (pe_var hN hv hd hcd) (pa_cons he pa_nil hs) hbase hfew hline hs hplain) hsw) fun D σ H ⟨F0, S0, B, F, S, env, KD, g, st, t, k⟩ => by
  unfold sExt at t
  split at t
  · rename_i ds ei
    obtain ⟨a, o, h1, h2, h3, h4, h5, h6⟩ := st.own ei
    cases h6 with
    | lst rl =>
      refine ⟨_, h1, .inl ⟨rfl, _, .of h5⟩, B, F, S, env, _, st, t, fun d S1 F1 H1 v g1 r1 q1 => ?_⟩
      have st1 := st.go g1
      obtain ⟨a', o', j1, j2, j3, j4, j5, j6⟩ := st1.own ei
      rw [h1] at j1
      cases j1
      cases j6 with
      | lst rl' =>
        split at q1
        · obtain ⟨b, us, rfl, hb, rb⟩ := r1.list g1.ok
          refine ⟨a, b, _, us, rfl, rfl, j5, hb, by rw [rl'.length, rb.length]; exact q1.1, ?_⟩
          obtain ⟨g2, st2⟩ := st1.write (g.trans g1) ei h1 (.lst (rl'.append rb))
          exact k.nx _ _ _ _ _ g1.ff g2 st2 q1.2
        · exact q1.elim
  · exact t.elim
end

/-! ### dicts -/
/-- keys the same, values by data -/
inductive RepKV {κ : Type} (K : PySem.W.Frag) (F : Hp) : List (κ × V) → List (κ × D) → Prop
  | nil : RepKV K F [] []
  | cons {k : κ} {v : V} {d : D} {r : List (κ × V)} {q : List (κ × D)} : Rep K F v d → RepKV K F r q → RepKV K F ((k, v) :: r) ((k, d) :: q)
section
variable {κ : Type} [DecidableEq κ] {K : PySem.W.Frag} {F F' : Hp}
theorem RepKV.zip : ∀ {ks : List κ} {vs : List V} {ds : List D}, RepL K F vs ds → RepKV K F (ks.zip vs) (ks.zip ds)
  | [], _, _, _ => by simp only [List.zip_nil_left]; exact .nil
  | _ :: _, _, _, .nil => by simp only [List.zip_nil_right]; exact .nil
  | _ :: _, _, _, .cons h r => .cons h (RepKV.zip r)
theorem RepKV.unzip : ∀ {r : List (κ × V)} {q : List (κ × D)}, RepKV K F r q → ∃ (ks : List κ) (vs : List V) (ds : List D), r = ks.zip vs ∧ q = ks.zip ds ∧ RepL K F vs ds ∧ ks.length = vs.length
  | _, _, .nil => ⟨[], [], [], rfl, rfl, .nil, rfl⟩
  | _, _, .cons h r => by
    obtain ⟨ks, vs, ds, rfl, rfl, rl, l⟩ := RepKV.unzip r
    exact ⟨_ :: ks, _ :: vs, _ :: ds, rfl, rfl, .cons h rl, by simp [l]⟩
theorem RepKV.mono (e : Same F F') {r : List (κ × V)} {q : List (κ × D)} (h : RepKV K F r q) : RepKV K F' r q := by
  induction h with
  | nil => exact .nil
  | cons a _ ih => exact .cons (a.mono e) ih
theorem RepKV.length {r : List (κ × V)} {q : List (κ × D)} (h : RepKV K F r q) : r.length = q.length := by
  induction h with
  | nil => rfl
  | cons _ _ ih => simp [ih]
theorem RepKV.get {r : List (κ × V)} {q : List (κ × D)} (h : RepKV K F r q) (k : κ) : (valV r k = none ∧ atK k q = none) ∨ ∃ v d, valV r k = some v ∧ atK k q = some d ∧ Rep K F v d := by
  induction h with
  | nil => exact .inl ⟨rfl, rfl⟩
  | @cons k' v d r q a _ ih =>
    by_cases e : k' = k
    · exact .inr ⟨v, d, valV_pos e, by unfold atK; rw [if_pos e], a⟩
    · have e1 : valV ((k', v) :: r) k = valV r k := valV_neg e
      have e2 : atK k ((k', d) :: q) = atK k q := by rw [atK, if_neg e]
      rw [e1, e2]; exact ih
theorem RepKV.append {r r' : List (κ × V)} {q q' : List (κ × D)} (h : RepKV K F r q) (h' : RepKV K F r' q') : RepKV K F (r ++ r') (q ++ q') := by
  induction h with
  | nil => exact h'
  | cons a _ ih => exact .cons a ih
theorem RepKV.any {r : List (κ × V)} {q : List (κ × D)} (h : RepKV K F r q) (k : κ) : (r.any fun kv => decide (kv.1 = k)) = q.any fun kv => decide (kv.1 = k) := by
  induction h with
  | nil => rfl
  | cons a _ ih => rw [List.any_cons, List.any_cons, ih]
theorem RepKV.repl {r : List (κ × V)} {q : List (κ × D)} (h : RepKV K F r q) (k : κ) {v : V} {d : D} (rv : Rep K F v d) : RepKV K F (r.map fun kv => if kv.1 = k then (kv.1, v) else kv) (q.map fun kv => if kv.1 = k then (kv.1, d) else kv) := by
  induction h with
  | nil => exact .nil
  | @cons k' v' d' r q a _ ih =>
    rw [List.map_cons, List.map_cons]
    by_cases e : k' = k
    · simp only [e, if_true]; exact .cons rv ih
    · simp only [e, if_false]; exact .cons a ih
theorem RepKV.put {r : List (κ × V)} {q : List (κ × D)} (h : RepKV K F r q) (k : κ) {v : V} {d : D} (rv : Rep K F v d) : RepKV K F (putK r k v) (putA q k d) := by
  unfold putK putA
  rw [h.any k]
  split
  · exact h.repl k rv
  · exact h.append (.cons rv .nil)
end
theorem Rep.dKV {K : PySem.W.Frag} {F : Hp} {v : V} {kds : List (Key × D)} (h : Rep K F v (.dK kds)) : ∃ a kvs, v = .ref a ∧ F a = some (.dK kvs) ∧ RepKV K F kvs kds := by
  cases h with
  | dK h1 h2 h3 h4 => subst h2; exact ⟨_, _, rfl, h1, .zip h3⟩
theorem Rep.dTV {K : PySem.W.Frag} {F : Hp} {v : V} {kds : List (List Key × D)} (h : Rep K F v (.dT kds)) : ∃ a kvs, v = .ref a ∧ F a = some (.dT kvs) ∧ RepKV K F kvs kds := by
  cases h with
  | dT h1 h2 h3 h4 => subst h2; exact ⟨_, _, rfl, h1, .zip h3⟩
theorem OwnR.dKV {K : PySem.W.Frag} {F : Hp} {o : HO} {kds : List (Key × D)} (h : OwnR K F o (.dK kds)) : ∃ kvs, o = .dK kvs ∧ RepKV K F kvs kds := by
  cases h with
  | dK h3 h4 => exact ⟨_, rfl, .zip h3⟩
theorem OwnR.dTV {K : PySem.W.Frag} {F : Hp} {o : HO} {kds : List (List Key × D)} (h : OwnR K F o (.dT kds)) : ∃ kvs, o = .dT kvs ∧ RepKV K F kvs kds := by
  cases h with
  | dT h3 h4 => exact ⟨_, rfl, .zip h3⟩
theorem OwnR.ofK {K : PySem.W.Frag} {F : Hp} {kvs : List (Key × V)} {kds : List (Key × D)} (h : RepKV K F kvs kds) : OwnR K F (.dK kvs) (.dK kds) := by
  obtain ⟨ks, vs, ds, rfl, rfl, rl, l⟩ := h.unzip
  exact .dK rl l
theorem OwnR.ofT {K : PySem.W.Frag} {F : Hp} {kvs : List (List Key × V)} {kds : List (List Key × D)} (h : RepKV K F kvs kds) : OwnR K F (.dT kvs) (.dT kds) := by
  obtain ⟨ks, vs, ds, rfl, rfl, rl, l⟩ := h.unzip
  exact .dT rl l
section
variable {K : PySem.W.Frag} {F S H : Hp}
theorem repB_dK {v : V} {kds : List (Key × D)} (ok : HOK F S H) (h : RepB K F S H v (.dK kds)) : ∃ a kvs, v = .ref a ∧ H a = some (.dK kvs) ∧ RepKV K F kvs kds := by
  rcases h with h | ⟨a, o, rfl, hs, hh, r⟩
  · obtain ⟨a, kvs, rfl, h1, h2⟩ := h.dKV; exact ⟨a, kvs, rfl, ok.fh _ _ h1, h2⟩
  · obtain ⟨kvs, rfl, h2⟩ := r.dKV; exact ⟨a, kvs, rfl, hh, h2⟩
theorem repB_dT {v : V} {kds : List (List Key × D)} (ok : HOK F S H) (h : RepB K F S H v (.dT kds)) : ∃ a kvs, v = .ref a ∧ H a = some (.dT kvs) ∧ RepKV K F kvs kds := by
  rcases h with h | ⟨a, o, rfl, hs, hh, r⟩
  · obtain ⟨a, kvs, rfl, h1, h2⟩ := h.dTV; exact ⟨a, kvs, rfl, ok.fh _ _ h1, h2⟩
  · obtain ⟨kvs, rfl, h2⟩ := r.dTV; exact ⟨a, kvs, rfl, hh, h2⟩
theorem keyOf_rep {v : V} {d : D} {k : Key} (ok : HOK F S H) (r : RepB K F S H v d) (e : keyOf d = some k) : v = kV k := by
  cases d with
  | int i => have z := r.int; simp only [keyOf, Option.some.injEq] at e; subst e z; rfl
  | str x => have z := r.str; simp only [keyOf, Option.some.injEq] at e; subst e z; rfl
  | _ => simp [keyOf] at e
theorem keysOf_rep : ∀ {ds : List D} {vs : List V} {ks : List Key}, RepL K F vs ds → keysOf ds = some ks → vs = ks.map kV
  | [], _, ks, .nil, e => by simp only [keysOf, Option.some.injEq] at e; subst e; rfl
  | d :: ds, _, ks, .cons h r, e => by
    unfold keysOf at e
    split at e
    · rename_i k q e1 e2
      cases e
      rw [keysOf_rep r e2]
      have z : keyOf d = some k := e1
      cases d with
      | int i => cases h; simp only [keyOf, Option.some.injEq] at z; subst z; rfl
      | str x => cases h; simp only [keyOf, Option.some.injEq] at z; subst z; rfl
      | _ => simp [keyOf] at z
    · cases e
theorem repB_key {v : V} {ds : List D} {ks : List Key} (ok : HOK F S H) (r : RepB K F S H v (.tup ds)) (e : keysOf ds = some ks) : ∃ b, v = .ref b ∧ H b = some (.tup (ks.map kV)) := by
  rcases r with r | ⟨a, o, e', hs, hh, r⟩
  · cases r with
    | tup q rl => rw [keysOf_rep rl e] at q; exact ⟨_, rfl, ok.fh _ _ q⟩
  · cases r
end
theorem noSl_of {X : Cx} {e : Expr} : True := trivial
section
variable {X : Cx} {e a b c o : Expr} {es : List Expr} {T Ta Tb Tc Ti : TE Hp} {pos apos cpos : Pos}
theorem dget_rep {K : PySem.W.Frag} {F S H : Hp} {x y : V} {dx dy : D} {k : D → Prop} (ok : HOK F S H) (r1 : RepB K F S H x dx) (r2 : RepB K F S H y dy) (t : opDget dx dy k) : ∃ a v d, x = .ref a ∧ DGet H a y (some v) ∧ Rep K F v d ∧ k d := by
  unfold opDget at t
  split at t
  · split at t
    · rename_i q eq
      split at t
      · rename_i d ed
        obtain ⟨a, kvs, rfl, h1, h2⟩ := repB_dK ok r1
        have e := keyOf_rep ok r2 eq
        subst e
        rcases h2.get q with ⟨z1, z2⟩ | ⟨v, d', z1, z2, r⟩
        · rw [ed] at z2; cases z2
        · rw [ed] at z2; cases z2
          exact ⟨a, v, d, rfl, .inl ⟨kvs, q, .of h1, rfl, z1.symm⟩, r, t⟩
      · exact t.elim
    · exact t.elim
  · split at t
    · rename_i q eq
      split at t
      · rename_i d ed
        obtain ⟨a, kvs, rfl, h1, h2⟩ := repB_dT ok r1
        obtain ⟨b, rfl, hb⟩ := repB_key ok r2 eq
        rcases h2.get q with ⟨z1, z2⟩ | ⟨v, d', z1, z2, r⟩
        · rw [ed] at z2; cases z2
        · rw [ed] at z2; cases z2
          exact ⟨a, v, d, rfl, .inr ⟨kvs, q, b, .of h1, rfl, hb, z1.symm⟩, r, t⟩
      · exact t.elim
    · exact t.elim
  · exact t.elim
/-- d[y] -/
theorem de_dget (hu : X.A.units + 64 < cLine) (ha : DB X a Ta) (hb : DB X b Tb) (hs : NoSl b := by exact fun _ _ => rfl) : DE X (.Subscript a b pos) (eBin opDget Ta Tb) :=
  pe_weak (pe_dget (by omega) ha hb hs) fun σ H Qv ⟨B, F, S, env, Q, st, t, k⟩ =>
  ⟨B, F, S, env, _, st, t, fun dx S1 F1 H1 x g1 r1 q1 => ⟨B, F1, S1, env, _, st.go g1, q1, fun dy S2 F2 H2 y g2 r2 q2 => by
    obtain ⟨a, v, d, e, h1, h2, h3⟩ := dget_rep g2.ok (r1.go g2) r2 q2
    exact ⟨a, v, e, h1, k _ _ _ _ _ (g1.trans g2) h2 h3⟩⟩⟩
end
end DL

end
section
set_option linter.all false
set_option maxRecDepth 100000
set_option autoImplicit false
/-! The data layer: displays of dicts, dict comprehensions. -/
namespace DL
open PySem L2 PyProof.Rows

/-- a new object is written -/
theorem Go.wr {F S H F' S' H' : Hp} (g : Go F S H F' S' H') {p : Addr} (hp : H p = none) (fp : F' p = none) (sp : S' p = none) (o : HO) : Go F S H F' S' (upd H' p o) := by
  refine ⟨g.ff, ⟨fun a u ha => ?_, fun a u ha => ?_, g.ok.ap⟩, fun a u ha hs => ?_, fun a ha => ?_, g.nf, g.ns⟩
  · rw [upd_ne (ne_of_none ha fp)]; exact g.ok.fh _ _ ha
  · rw [upd_ne (ne_of_none ha sp)]; exact g.ok.sh _ _ ha
  · rw [upd_ne (ne_of_none ha hp)]; exact g.keep _ _ ha hs
  · by_cases q : a = p
    · subst q; rw [upd_same]; exact fun z => nomatch z
    · rw [upd_ne q]; exact g.dom _ ha
/-- the pairs of a display -/
def liftPs (K : PySem.W.Frag) (ks : List PySem.Str) (r : TA Hp) : L2.St → Hp → (List (V × V) → Hp → Prop) → Prop := fun σ H Qp => ∃ B F S env Q, StR K B F S env σ H ∧ r env S Q ∧ ∀ ds S' F' H' vs, Go F S H F' S' H' → RepL K F' vs ds → vs.length = ks.length → Q ds S' → Qp ((ks.map V.str).zip vs) H'
def DPp (X : Cx) (pos : Pos) (keys : List (Option Expr)) (values : List Expr) (ks : List PySem.Str) (r : TA Hp) : Prop := ∃ trs, PPs X pos keys values trs ∧ ∀ σ H Qp, liftPs X.K ks r σ H Qp → tPairs trs σ H Qp
section
variable {X : Cx} {e : Expr} {T : TE Hp} {pos p : Pos} {j : Nat} {keys : List (Option Expr)} {values : List Expr} {ks : List PySem.Str} {r : TA Hp} {x : PySem.Str}
theorem dpp_nil : DPp X pos [] [] [] aNil := ⟨[], pps_nil, fun σ H Qp ⟨B, F, S, env, Q, st, t, k⟩ => k [] S F H [] (Go.refl st.ok) .nil rfl t⟩
theorem dpp_cons (he : DE X e T) (h : DPp X pos keys values ks r) : DPp X pos (some (.Constant (.str x) j p) :: keys) (e :: values) (x :: ks) (aCons T r) := by
  obtain ⟨trs, h1, h2⟩ := h
  refine ⟨_, pps_cons pe_str he h1, fun σ H Qp ⟨B, F, S, env, Q, st, t, k⟩ => ?_⟩
  show lift X.K T σ H fun y H2 => tPairs trs σ H2 fun ps H3 => Qp ((V.str x, y) :: ps) H3
  exact ⟨B, F, S, env, _, st, t, fun d S1 F1 H1 v g1 r1 q1 => h2 _ _ _ ⟨B, F1, S1, env, _, st.go g1, q1, fun ds S2 F2 H2 vs g2 r2 l q2 => k (d :: ds) S2 F2 H2 (v :: vs) (g1.trans g2) (.cons (r1.mono g2.ff) r2) (by simp [l]) q2⟩⟩
theorem mergeK_new : ∀ (more kvs : List (Key × V)), (∀ q ∈ more, valV kvs q.1 = none) → (more.map (·.1)).Nodup → mergeK kvs more = kvs ++ more
  | [], kvs, _, _ => by simp [mergeK]
  | q :: more, kvs, h, n => by
    rw [List.map_cons, List.nodup_cons] at n
    have e := putK_new (kvs := kvs) (k := q.1) q.2 (h q List.mem_cons_self)
    show mergeK (putK kvs q.1 q.2) more = _
    rw [e, mergeK_new more _ (fun z hz => ?_) n.2]
    · simp
    · rw [← e, valV_put]
      have ne : z.1 ≠ q.1 := fun w => n.1 (by rw [← w]; exact List.mem_map_of_mem hz)
      rw [if_neg ne]
      exact h z (List.mem_cons_of_mem _ hz)
theorem zip_keys : ∀ (ks : List PySem.Str) (vs : List V), (ks.map V.str).zip vs = (((ks.map Sum.inr : List Key)).zip vs).map fun kv => (kV kv.1, kv.2)
  | [], _ => by simp
  | _ :: _, [] => by simp
  | k :: ks, v :: vs => by
    have := zip_keys ks vs
    simp only [List.map_cons, List.zip_cons_cons, this]
    rfl
theorem df_disp (h : DPp X pos keys values ks r) (hall : keys.all (·.isSome) = true := by rfl) (hl : keys.length = values.length := by rfl) (h0 : keys ≠ [] := by exact fun z => nomatch z) (h15 : keys.length ≤ 15 := by decide) (hk : ks.length ≤ 15 := by decide) (hn : ks.Nodup := by decide) : DF X (.Dict keys values pos) (eDk ks r) := by
  obtain ⟨trs, h1, h2⟩ := h
  refine pe_weak (pe_disp h1 hall hl h0 h15) fun σ H Qv ⟨B, F, S, env, Q, st, t, k⟩ p hp => h2 _ _ _ ?_
  have g0 := Go.newH st.ok hp (.dK [])
  refine ⟨B, F, S, env, _, st.go g0, t, fun ds S1 F1 H1 vs g1 rl l q1 => ?_⟩
  obtain ⟨fp, sp, hh⟩ := fresh_go g1 (st.ok.fh.free hp) (st.ok.sh.free hp) upd_same
  refine ⟨hh, (ks.map Sum.inr).zip vs, ?_, ?_, ?_⟩
  · exact zip_keys ks vs
  · rw [List.length_zip, List.length_map]; omega
  · have e : mergeK [] ((ks.map Sum.inr).zip vs) = (ks.map Sum.inr).zip vs := by
      rw [mergeK_new _ _ (fun _ _ => rfl)]
      · rfl
      · rw [List.map_fst_zip (by simp [l])]
        exact List.pairwise_map.mpr (hn.imp fun h e => h (Sum.inr.inj e))
    rw [e]
    exact k _ S1 F1 _ p _ ((g0.trans g1).wr hp fp sp _) hp fp sp upd_same (.dK rl (by simp [l])) q1
end
end DL

end
section
set_option linter.all false
set_option maxRecDepth 100000
set_option autoImplicit false
/-! The data layer: dict comprehensions whose keys are tuples. -/
namespace DL
open PySem L2 PySem.Spec PyProof.Rows

/-- d[k] = v by a comprehension, k a tuple -/
theorem d_dictSetT {X : Cx} {pins : List (Addr × Obj)} {σ : L2.St} {H : Hp} {s : Shared} {E : Value → Shared → Prop} {D b : Addr} {kvs : List (List Key × V)} {k : List Key} {v : V} {r : Value} {Q : Unit → Shared → Prop} (hu : X.A.units + 1 < cLine) (I : Inv X pins σ H s) (hD : H D = some (.dT kvs)) (hz : kvs.length < sizeLine)
    (eb : H b = some (.tup (k.map kV))) (rv : RelV v r) (h : ∀ s', Inv X pins σ (upd H D (.dT (putK kvs k v))) s' → Q () s') : wpAny (model X.prog X.w) X.A (dictSet D (.ref b) r) Q E s := by
  obtain ⟨z, hd, xs, rel, dd⟩ := dt_of I.hok hD
  have hzv : xs.length ≤ sizeLine := by rw [← Paired.length rel]; exact z
  have hl : (putK kvs k v).length ≤ sizeLine := by have := length_putK kvs k v; omega
  refine wpAny_dictSet_heap (hsz := hzv) (show X.A.units < cLine by omega) (key_of I.hok eb) dd fun h' dd' hs => h _ ?_
  obtain ⟨q, es, ep, hq, h2, h3, h4, _, h5⟩ := dd'
  refine d_write I (by rw [hD]; exact True.intro) hs ⟨q, hq⟩ ⟨hl, hd, _, (rel.put k eb rv).keeps fun c ys ec => ?_, q, es, ep, hq, h2, h3, h4, h5⟩
  rw [upd_ne (ne_of ec hD (fun z => nomatch z))]
  exact ec
section
variable {X : Cx}
/-- {k: v for target in iter if ..}, keys tuples: D the new dict -/
def tDcT (wi : L2.TI) (g : TG) (tt : L2.TT) (tk tv : L2.TE) (vs : List Nat) : L2.TE := fun σ H Q => wi σ H fun J H1 => ∀ D, H1 D = none → ∃ W : Nat → Nat → Hp → Prop, (∃ m, W 0 m (upd H1 D (.dT []))) ∧ ∀ i m H, W i m H →
  (J.stop i H ∧ Q (.ref D) H) ∨ (J.go i H ∧ ∃ Nx : Hp → Prop, (∀ H', Nx H' → ∃ m', m' < m ∧ W (i + 1) m' H') ∧ ∀ x H', J.yld i H x H' → g x (wipe σ vs) H' fun σ2 H2 => wipe σ2 vs = wipe σ vs ∧ tt σ2 H2 fun b H3 =>
    if b = true then tk σ2 H3 fun y H4 => tv σ2 H4 fun z H5 => ∃ kvs k b, y = .ref b ∧ H5 b = some (.tup (k.map kV)) ∧ H5 D = some (.dT kvs) ∧ kvs.length < sizeLine ∧ Nx (upd H5 D (.dT (putK kvs k z))) else Nx H3)
theorem dcT_core {pins : List (Addr × Obj)} {s : Shared} {σ : L2.St} {H : Hp} {Q : VK} {kx vx tg iter : Expr} {ifs : List Expr} {scope : Scope} {own : List (PySem.Str × Nat)} {pos pos' : Pos} {wi : L2.TI} {g : TG} {tt : L2.TT} {tk tv : L2.TE} {use : Option (Value → Sem Unit)} {Qf : Value → Shared → Prop}
    (hu : X.A.units + 1 < cLine) (hc : X.calm = true) (hN : X.N.Nodup) (I : Inv X pins σ H s) (hi : PI X tg iter wi) (ok : BlkOk X.N X.env.scope scope own)
    (hg : ∀ (s : Shared) (H : Hp) (C : Addr) (cl : List (PySem.Str × Addr)) (fp : List Addr), PG (X.blk s H scope (compEnvC scope cl C X.env) fp) tg g) (ht : ∀ (s : Shared) (H : Hp) (C : Addr) (cl : List (PySem.Str × Addr)) (fp : List Addr), PTs (X.blk s H scope (compEnvC scope cl C X.env) fp) ifs tt)
    (hk : ∀ (s : Shared) (H : Hp) (C : Addr) (cl : List (PySem.Str × Addr)) (fp : List Addr), PE (X.blk s H scope (compEnvC scope cl C X.env) fp) kx tk)
    (he : ∀ (s : Shared) (H : Hp) (C : Addr) (cl : List (PySem.Str × Addr)) (fp : List Addr), PE (X.blk s H scope (compEnvC scope cl C X.env) fp) vx tv) (hs : ∀ x, foldedSetIterable iter X.env x = pure x)
    (h : tDcT wi g tt tk tv (own.map (·.2)) σ H Q)
    (hRR : ∀ D C s' m H', Inv X pins σ H' s' → Q (.ref D) H' → s'.heap.Ns C m → FpOk X pins H' C → compPost (model X.prog X.w) X.A X.xe use Qf (.ref D) C (.ok .next) s') :
    wpAny (model X.prog X.w) X.A (comprehension (.DictComp kx vx [⟨tg, iter, ifs, 0⟩] scope pos) scope X.env pos' newDict false (eval iter X.env) use) Qf X.xe s := by
  have hfree : ∀ y ∈ scope.names, y.2 = .free → ∃ c, X.env.cells.lookup y.1 = some c := fun y hy e => by
    rcases ok.free y hy e with k | k
    · exact I.ok.has _ (.inl k)
    · exact I.ok.has _ (.inr k)
  refine wpAny_comprehension_free (use := use) rfl hs (closure_ok hfree) ok.kind (fun y hy e => by rw [ok.uniq y hy, e])
    (thn (hi.run pins s σ H _ I h) fun xv s1 hx => thn hx fun itv s2 h2 => ?_)
  obtain ⟨it, fp, tn, J, H2, e, I2, Tn, st2, f2, q⟩ := h2
  subst e
  refine wpAny_newObj_type (newEnv_comp ?_)
  generalize hD : s2.heap.objs.size = D
  have hDn : H2 D = none := I2.hok.fresh (Nat.le_of_eq hD)
  obtain ⟨W, ⟨m0, w0⟩, turn⟩ := q D hDn
  generalize hs3 : ({ s2 with heap := s2.heap.push { cls := .type "dict", data := .dict #[] } } : Shared) = s3
  have I3 : Inv X pins σ (upd H2 D (.dT [])) s3 := by
    rw [← hs3]
    refine I2.laid (t' := s2.toks) (fun b o e => Heap.get?_push_of_some _ e) (Nat.le_of_eq hD) ?_
    rw [← hD]
    exact dt_empty s2.heap I2.big
  have h3 : s3.heap = s2.heap.push { cls := .type "dict", data := .dict #[] } := by rw [← hs3]
  have sz : ∀ b ∈ fp, b < s2.heap.objs.size := fun b hb => by
    obtain ⟨o, e, _⟩ := Tn.obj _ _ st2 b hb
    exact Heap.lt_size e
  have f3 : ∀ b ∈ fp, FpOk X pins (upd H2 D (.dT [])) b ∧ b < s3.heap.objs.size := fun b hb => by
    have hlt := sz b hb
    refine ⟨⟨?_, (f2 b hb).2⟩, by rw [h3, Heap.size_push]; exact Nat.lt_succ_of_lt hlt⟩
    rw [upd_ne (by rw [← hD]; exact Nat.ne_of_lt hlt)]
    exact (f2 b hb).1
  have st3 : tn 0 s3.heap := Tn.keep _ _ _ st2 fun b _ o e => by rw [h3]; exact Heap.get?_push_of_some _ e
  have I4 := block_start I3 ok hN f3
  have pg := hg s3 (upd H2 D (.dT [])) s3.heap.objs.size (cellsFrom (s3.heap.objs.size + 1) scope.names (cloFrom X.env.cells scope.names [])) fp
  have pt := ht s3 (upd H2 D (.dT [])) s3.heap.objs.size (cellsFrom (s3.heap.objs.size + 1) scope.names (cloFrom X.env.cells scope.names [])) fp
  have pk := hk s3 (upd H2 D (.dT [])) s3.heap.objs.size (cellsFrom (s3.heap.objs.size + 1) scope.names (cloFrom X.env.cells scope.names [])) fp
  have pe := he s3 (upd H2 D (.dT [])) s3.heap.objs.size (cellsFrom (s3.heap.objs.size + 1) scope.names (cloFrom X.env.cells scope.names [])) fp
  show codeAny _ _ (.compStart (.DictComp kx vx [⟨tg, iter, ifs, 0⟩] scope pos) 0 (.ref it) (.ref D) (compEnvC scope (cellsFrom (s3.heap.objs.size + 1) scope.names (cloFrom X.env.cells scope.names [])) s3.heap.objs.size X.env)) (compPost (model X.prog X.w) X.A X.xe use Qf (.ref D) s3.heap.objs.size) { s3 with heap := pushCells (s3.heap.push { cls := .type "dict", data := .dict #[] }) scope.names }
  have nfp : ∀ b ∈ fp, (upd H2 D (.dT [])) b = none := fun b hb => (f3 b hb).1.1
  generalize hce : compEnvC scope (cellsFrom (s3.heap.objs.size + 1) scope.names (cloFrom X.env.cells scope.names [])) s3.heap.objs.size X.env = ce at I4 pg pt pk pe ⊢
  have cL : ce.locals = s3.heap.objs.size := by subst hce; rfl
  generalize hH3 : upd H2 D (.dT []) = H3 at I3 I4 pg pt pk pe w0 nfp f3
  generalize hs4 : ({ s3 with heap := pushCells (s3.heap.push { cls := .type "dict", data := .dict #[] }) scope.names } : Shared) = s4 at I4 ⊢
  have st4 : tn 0 s4.heap := Tn.keep _ _ _ st3 fun b _ o e => by rw [← hs4]; exact pushCells_keeps _ _ _ _ (Heap.get?_push_of_some _ e)
  have stat : ∀ {σ' : L2.St} {H' : Hp} {s' : Shared}, Inv (X.blk s3 H3 scope ce fp) [] σ' H' s' → (∀ b ∈ fp, H' b = none) → ∀ b ∈ fp, FpOk (X.blk s3 H3 scope ce fp) [] H' b := fun {σ' H' s'} I' hn b hb =>
    ⟨hn b hb, (I'.ok.exf b hb).1, I'.ok.exfs b hb, .inl hb, fun x c e => (I'.ok.exf b hb).2 x c e, fun p hp => absurd (show p ∈ ([] : List (Addr × Obj)) ++ [] from hp) (by simp)⟩
  have loop : codeAny (model X.prog X.w) X.A (.compLoop (.DictComp kx vx [⟨tg, iter, ifs, 0⟩] scope pos) 0 (.ref it) (.ref D) ce) (compPost (model X.prog X.w) X.A X.xe use Qf (.ref D) s3.heap.objs.size) s4 := by
    refine compLoop_anyD (fun n s' => ∃ i H', Inv (X.blk s3 H3 scope ce fp) [] (wipe σ (own.map (·.2))) H' s' ∧ tn i s'.heap ∧ (∀ b ∈ fp, H' b = none) ∧ W i n H') ?_ m0 ⟨0, H3, I4, st4, nfp, w0⟩
    rintro n s5 ⟨i, H5, I5, st5, n5, w5⟩
    rcases turn i n H5 w5 with ⟨stop, qq⟩ | ⟨go, Nx, hNx, step⟩
    · have td := Tn.done (X.blk s3 H3 scope ce fp) rfl rfl rfl hc i [] s5 _ H5 (fun _ _ => False) I5 (stat I5 n5) st5 stop
      refine thnF td fun r s6 ⟨hr, I6⟩ => ?_
      subst hr
      have I7 : Inv X pins σ H5 s6 := I3.call' (ch := fp) I6.os I6.base I6.hok I6.bare fun b hb => ⟨(f3 b hb).1.2.2.2.1, (f3 b hb).1.2.1, (f3 b hb).1.2.2.2.2.1, (f3 b hb).1.2.2.2.2.2⟩
      have nC : H5 s3.heap.objs.size = none := by
        have z : H5 ce.locals = none := I6.free
        rw [cL] at z
        exact z
      obtain ⟨m, hn, _⟩ := I6.loc
      have hn : s6.heap.Ns ce.locals m := hn
      rw [cL] at hn
      exact hRR D s3.heap.objs.size s6 m H5 I7 qq hn (I3.fpOk (Nat.le_refl _) nC)
    · have ti := Tn.item (X.blk s3 H3 scope ce fp) rfl rfl rfl hc i [] s5 _ H5 (fun _ _ => False) I5 (stat I5 n5) st5 go
      refine thnF ti fun r s6 ⟨u, hr, h6⟩ => ?_
      subst hr
      refine thnF h6 fun _ s7 ⟨x, H7, I7, r7, y7, st7, n7⟩ => ?_
      have I7' := I7.pinned (stat I7 n7) (Tn.obj _ _ st7)
      refine thnF (pg.run _ s7 _ H7 x u _ I7' r7 (step x H7 y7)) fun _ s8 ⟨σ8, H8, I8, hw8, q8⟩ => ?_
      refine thnF (pt.run _ s8 σ8 H8 _ I8 q8) fun b s9 ⟨H9, I9, q9⟩ => ?_
      have fin : ∀ {s' : Shared} {H' : Hp}, Inv (X.blk s3 H3 scope ce fp) ([] ++ pinsAt fp s7.heap) σ8 H' s' → Nx H' → ∃ m, m < n ∧ ∃ i H', Inv (X.blk s3 H3 scope ce fp) [] (wipe σ (own.map (·.2))) H' s' ∧ tn i s'.heap ∧ (∀ b ∈ fp, H' b = none) ∧ W i m H' := fun {s' H'} I' nx => by
        obtain ⟨m', hm, w'⟩ := hNx H' nx
        have pin' : ∀ b ∈ fp, ∀ o, s7.heap.get? b = some o → s'.heap.get? b = some o ∧ H' b = none := fun b hb o e =>
          let z := I'.pin (b, o) (List.mem_append_right _ (List.mem_append_right _ (mem_pinsAt hb e)))
          ⟨z.1, z.2.1⟩
        have hl : (wipe σ (own.map (·.2))).length = σ8.length := by rw [← hw8, wipe_length]
        refine ⟨m', hm, i + 1, H', (I'.unpinned (pins := [])).weak hl (fun j v e => ?_), Tn.keep _ _ _ st7 fun b hb o e => (pin' b hb o e).1, fun b hb => ?_, w'⟩
        · rw [← hw8] at e
          exact (wipe_some e).1
        · obtain ⟨o, e, _⟩ := Tn.obj _ _ st7 b hb
          exact (pin' b hb o e).2
      cases b with
      | false =>
        simp only [Bool.false_eq_true, if_false] at q9 ⊢
        exact fin I9 q9
      | true =>
        simp only [if_true] at q9 ⊢
        refine thnF (pk.run _ s9 σ8 H9 _ I9 q9) fun z s10 ⟨yk, H10, I10, r10, q10⟩ => ?_
        refine thnF (pe.run _ s10 σ8 H10 _ I10 q10) fun z2 s11 ⟨yv, H11, I11, r11, kvs, k, b, ek, eb, hD11, hz11, nx⟩ => ?_
        subst ek
        cases (show z = Value.ref b from r10)
        exact d_dictSetT (X := X.blk s3 H3 scope ce fp) hu I11 hD11 hz11 eb r11 fun s12 I12 => fin I12 nx
  exact codeAny_compStart_dict loop (Tn.self X.A 0 _ _ _ st4 loop)
theorem pe_dcT {kx vx tg iter : Expr} {ifs : List Expr} {scope : Scope} {own : List (PySem.Str × Nat)} {pos : Pos} {wi : L2.TI} {g : TG} {tt : L2.TT} {tk tv : L2.TE} (hu : X.A.units + 1 < cLine) (hc : X.calm = true) (hN : X.N.Nodup) (hi : PI X tg iter wi) (ok : BlkOk X.N X.env.scope scope own)
    (hg : ∀ (s : Shared) (H : Hp) (C : Addr) (cl : List (PySem.Str × Addr)) (fp : List Addr), PG (X.blk s H scope (compEnvC scope cl C X.env) fp) tg g) (ht : ∀ (s : Shared) (H : Hp) (C : Addr) (cl : List (PySem.Str × Addr)) (fp : List Addr), PTs (X.blk s H scope (compEnvC scope cl C X.env) fp) ifs tt)
    (hk : ∀ (s : Shared) (H : Hp) (C : Addr) (cl : List (PySem.Str × Addr)) (fp : List Addr), PE (X.blk s H scope (compEnvC scope cl C X.env) fp) kx tk)
    (he : ∀ (s : Shared) (H : Hp) (C : Addr) (cl : List (PySem.Str × Addr)) (fp : List Addr), PE (X.blk s H scope (compEnvC scope cl C X.env) fp) vx tv) (hs : ∀ x, foldedSetIterable iter X.env x = pure x := by intro _; rfl) :
    PE X (.DictComp kx vx [⟨tg, iter, ifs, 0⟩] scope pos) (tDcT wi g tt tk tv (own.map (·.2))) := by
  refine ⟨fun pins s σ H Q I h => ?_⟩
  rw [arm_eval_DictComp]
  refine dcT_core hu hc hN I hi ok hg ht hk he hs h fun D C s' m H' I' q hn f => ⟨m, hn, fun h'' sb => ?_⟩
  obtain ⟨f0, f1, f2, f3, f4, f5⟩ := f
  exact ⟨.ref D, H', I'.turned (t' := s'.toks) (fun b o hb e => (sb.2 b hb).trans e) f0 f1 f3 f4 f5, rfl, q⟩
end
end DL

end
section
set_option linter.all false
set_option maxRecDepth 100000
set_option autoImplicit false
/-! The data layer: dict comprehensions by data (printed by dcgen.py). -/
namespace DL
open PySem L2 PySem.Spec PyProof.Rows
theorem dcT_ok {K : PySem.W.Frag} {I : TI Hp} {p : Pat} {t : TT Hp} {Tk Tv : TE Hp} {vs : List Nat} {σ : L2.St} {H : Hp} {Qv : VK} (hv : ∀ i ∈ p.names, i ∈ vs) (h : liftF K (eDcT I p t Tk Tv vs) σ H Qv) : tDcT (liftI K I) (gP K p) (liftT K t) (lift K Tk) (lift K Tv) vs σ H Qv := by
  obtain ⟨B, F, S, env, Q, st, tt, k⟩ := h
  refine ⟨B, F, S, env, _, st, tt, fun ds S1 F1 H1 J g1 ok q1 D hD => ?_⟩
  have hHD : H D = none := none_of_dom g1 hD
  refine ⟨fun i m H' => m = ds.length - i ∧ i ≤ ds.length ∧ ∃ F' S' kvs acc, Go F S H F' S' H' ∧ Same F1 F' ∧ F' D = none ∧ S' D = none ∧ H' D = some (.dT kvs) ∧ RepKV K F' kvs acc ∧ StR K B F' S' env σ H' ∧ dcT p t Tk Tv (wipeE env vs) (fun acc s2 => Q (.dT acc) s2) (ds.drop i) acc S',
    ⟨ds.length, by simp, Nat.zero_le _, F1, S1, [], [], g1.trans (Go.newH g1.ok hD _), Same.refl _, g1.ok.fh.free hD, g1.ok.sh.free hD, upd_same, .nil, (st.go g1).go (Go.newH g1.ok hD _), by simpa using q1⟩, ?_⟩
  rintro i m H' ⟨rfl, hi', F', S', kvs, acc, g', sm, fD, sD, hD', rl, st', t'⟩
  by_cases hlt : i < ds.length
  · refine .inr ⟨ok.goes i F' S' H' hlt sm st'.ok, fun H' => ∃ F' S' kvs acc, Go F S H F' S' H' ∧ Same F1 F' ∧ F' D = none ∧ S' D = none ∧ H' D = some (.dT kvs) ∧ RepKV K F' kvs acc ∧ StR K B F' S' env σ H' ∧ dcT p t Tk Tv (wipeE env vs) (fun acc s2 => Q (.dT acc) s2) (ds.drop (i + 1)) acc S', ?_, ?_⟩
    · rintro H2 h
      exact ⟨ds.length - (i + 1), by omega, rfl, hlt, h⟩
    · intro v H'' y
      obtain ⟨F2, d, e, g2, r⟩ := ok.yields i F' S' H' v H'' hlt sm st'.ok y
      rw [drop_of hlt e] at t'
      unfold dcT at t'
      split at t'
      · rename_i env2 e2
        refine put_ok p e2 ((st'.go g2).wipe vs) r fun σ2 st2 w => ⟨(w vs hv).trans (wipe_idem σ vs), B, F2, S', env2, _, st2, t', fun b S3 F3 H3 g3 q3 => ?_⟩
        cases b with
        | true =>
          rw [if_pos rfl] at q3
          refine iteT ⟨B, F3, S3, env2, _, st2.go g3, q3, fun dk S4 F4 H4 y4 g4 r4 q4 => ⟨B, F4, S4, env2, _, (st2.go g3).go g4, q4, fun d5 S5 F5 H5 v5 g5 r5 q5 => ?_⟩⟩
          have gg := ((g2.trans g3).trans g4).trans g5
          obtain ⟨f5, s5, h5⟩ := fresh_go gg fD sD hD'
          cases dk with
          | tup xs =>
            have q5 : (match keysOf xs with
              | some q => acc.length < line ∧ dcT p t Tk Tv (wipeE env vs) (fun acc s2 => Q (.dT acc) s2) (ds.drop (i + 1)) (putA acc q d5) S5
              | none => False) := q5
            split at q5
            · rename_i q eq
              obtain ⟨b, rfl, hb⟩ := repB_key g5.ok (.inl (r4.mono g5.ff)) eq
              refine ⟨kvs, q, b, rfl, hb, h5, by rw [rl.length]; exact q5.1, ?_⟩
              exact ⟨F5, S5, _, _, (g'.trans gg).wr hHD f5 s5 _, sm.trans gg.ff, f5, s5, upd_same, (rl.mono gg.ff).put q r5, st.go ((g'.trans gg).wr hHD f5 s5 _), q5.2⟩
            · exact q5.elim
          | _ => exact q5.elim
        | false =>
          rw [if_neg Bool.false_ne_true] at q3
          obtain ⟨f5, s5, h5⟩ := fresh_go (g2.trans g3) fD sD hD'
          exact iteF ⟨F3, S3, kvs, acc, g'.trans (g2.trans g3), sm.trans (g2.trans g3).ff, f5, s5, h5, rl.mono (g2.trans g3).ff, st'.go (g2.trans g3), q3⟩
      · exact t'.elim
  · have e : i = ds.length := by omega
    subst e
    rw [List.drop_length] at t'
    exact .inl ⟨ok.stops F' S' H' sm st'.ok, k _ S' F' H' D _ g' hHD fD sD hD' (OwnR.ofT rl) t'⟩
section
variable {X : Cx} {tg it kx vx : Expr} {ifs : List Expr} {I : TI Hp} {p : Pat} {t : TT Hp} {Tk Tv : TE Hp} {scope : Scope} {own : List (PySem.Str × Nat)} {pos : Pos}
theorem df_dcT (hu : X.A.units + 64 < cLine) (hi : DI X tg it I) (ok : BlkOk X.N X.env.scope scope own) (hN : X.N.Nodup)
    (hg : ∀ (s : Shared) (H : Hp) (C : Addr) (cl : List (PySem.Str × Addr)) (fp : List Addr), PG (X.blk s H scope (compEnvC scope cl C X.env) fp) tg (gP X.K p)) (ht : ∀ (s : Shared) (H : Hp) (C : Addr) (cl : List (PySem.Str × Addr)) (fp : List Addr), DTs (X.blk s H scope (compEnvC scope cl C X.env) fp) ifs t)
    (hk : ∀ (s : Shared) (H : Hp) (C : Addr) (cl : List (PySem.Str × Addr)) (fp : List Addr), DE (X.blk s H scope (compEnvC scope cl C X.env) fp) kx Tk)
    (he : ∀ (s : Shared) (H : Hp) (C : Addr) (cl : List (PySem.Str × Addr)) (fp : List Addr), DE (X.blk s H scope (compEnvC scope cl C X.env) fp) vx Tv) (hv : ∀ i ∈ p.names, i ∈ own.map (·.2) := by decide) (hc : X.calm = true := by rfl) (hs : ∀ x, foldedSetIterable it X.env x = pure x := by intro _; rfl) :
    DF X (.DictComp kx vx [⟨tg, it, ifs, 0⟩] scope pos) (eDcT I p t Tk Tv (own.map (·.2))) := pe_weak (pe_dcT (by omega) (wi := liftI X.K I) (g := gP X.K p) (tt := liftT X.K t) (tk := lift X.K Tk) (tv := lift X.K Tv) hc hN hi ok hg ht hk he hs) fun σ H Qv h => dcT_ok hv h
end
theorem dcK_ok {K : PySem.W.Frag} {I : TI Hp} {p : Pat} {t : TT Hp} {Tk Tv : TE Hp} {vs : List Nat} {σ : L2.St} {H : Hp} {Qv : VK} (hv : ∀ i ∈ p.names, i ∈ vs) (h : liftF K (eDcK I p t Tk Tv vs) σ H Qv) : L2.tDc (liftI K I) (gP K p) (liftT K t) (lift K Tk) (lift K Tv) vs σ H Qv := by
  obtain ⟨B, F, S, env, Q, st, tt, k⟩ := h
  refine ⟨B, F, S, env, _, st, tt, fun ds S1 F1 H1 J g1 ok q1 D hD => ?_⟩
  have hHD : H D = none := none_of_dom g1 hD
  refine ⟨fun i m H' => m = ds.length - i ∧ i ≤ ds.length ∧ ∃ F' S' kvs acc, Go F S H F' S' H' ∧ Same F1 F' ∧ F' D = none ∧ S' D = none ∧ H' D = some (.dK kvs) ∧ RepKV K F' kvs acc ∧ StR K B F' S' env σ H' ∧ dcK p t Tk Tv (wipeE env vs) (fun acc s2 => Q (.dK acc) s2) (ds.drop i) acc S',
    ⟨ds.length, by simp, Nat.zero_le _, F1, S1, [], [], g1.trans (Go.newH g1.ok hD _), Same.refl _, g1.ok.fh.free hD, g1.ok.sh.free hD, upd_same, .nil, (st.go g1).go (Go.newH g1.ok hD _), by simpa using q1⟩, ?_⟩
  rintro i m H' ⟨rfl, hi', F', S', kvs, acc, g', sm, fD, sD, hD', rl, st', t'⟩
  by_cases hlt : i < ds.length
  · refine .inr ⟨ok.goes i F' S' H' hlt sm st'.ok, fun H' => ∃ F' S' kvs acc, Go F S H F' S' H' ∧ Same F1 F' ∧ F' D = none ∧ S' D = none ∧ H' D = some (.dK kvs) ∧ RepKV K F' kvs acc ∧ StR K B F' S' env σ H' ∧ dcK p t Tk Tv (wipeE env vs) (fun acc s2 => Q (.dK acc) s2) (ds.drop (i + 1)) acc S', ?_, ?_⟩
    · rintro H2 h
      exact ⟨ds.length - (i + 1), by omega, rfl, hlt, h⟩
    · intro v H'' y
      obtain ⟨F2, d, e, g2, r⟩ := ok.yields i F' S' H' v H'' hlt sm st'.ok y
      rw [drop_of hlt e] at t'
      unfold dcK at t'
      split at t'
      · rename_i env2 e2
        refine put_ok p e2 ((st'.go g2).wipe vs) r fun σ2 st2 w => ⟨(w vs hv).trans (wipe_idem σ vs), B, F2, S', env2, _, st2, t', fun b S3 F3 H3 g3 q3 => ?_⟩
        cases b with
        | true =>
          rw [if_pos rfl] at q3
          refine iteT ⟨B, F3, S3, env2, _, st2.go g3, q3, fun dk S4 F4 H4 y4 g4 r4 q4 => ⟨B, F4, S4, env2, _, (st2.go g3).go g4, q4, fun d5 S5 F5 H5 v5 g5 r5 q5 => ?_⟩⟩
          have gg := ((g2.trans g3).trans g4).trans g5
          obtain ⟨f5, s5, h5⟩ := fresh_go gg fD sD hD'
          split at q5
          · rename_i q eq
            have e6 := keyOf_rep g5.ok (.inl (r4.mono g5.ff)) eq
            refine ⟨kvs, q, e6, h5, by rw [rl.length]; exact q5.1, ?_⟩
            exact ⟨F5, S5, _, _, (g'.trans gg).wr hHD f5 s5 _, sm.trans gg.ff, f5, s5, upd_same, (rl.mono gg.ff).put q r5, st.go ((g'.trans gg).wr hHD f5 s5 _), q5.2⟩
          · exact q5.elim
        | false =>
          rw [if_neg Bool.false_ne_true] at q3
          obtain ⟨f5, s5, h5⟩ := fresh_go (g2.trans g3) fD sD hD'
          exact iteF ⟨F3, S3, kvs, acc, g'.trans (g2.trans g3), sm.trans (g2.trans g3).ff, f5, s5, h5, rl.mono (g2.trans g3).ff, st'.go (g2.trans g3), q3⟩
      · exact t'.elim
  · have e : i = ds.length := by omega
    subst e
    rw [List.drop_length] at t'
    exact .inl ⟨ok.stops F' S' H' sm st'.ok, k _ S' F' H' D _ g' hHD fD sD hD' (OwnR.ofK rl) t'⟩
section
variable {X : Cx} {tg it kx vx : Expr} {ifs : List Expr} {I : TI Hp} {p : Pat} {t : TT Hp} {Tk Tv : TE Hp} {scope : Scope} {own : List (PySem.Str × Nat)} {pos : Pos}
theorem df_dcK (hi : DI X tg it I) (ok : BlkOk X.N X.env.scope scope own) (hN : X.N.Nodup)
    (hg : ∀ (s : Shared) (H : Hp) (C : Addr) (cl : List (PySem.Str × Addr)) (fp : List Addr), PG (X.blk s H scope (compEnvC scope cl C X.env) fp) tg (gP X.K p)) (ht : ∀ (s : Shared) (H : Hp) (C : Addr) (cl : List (PySem.Str × Addr)) (fp : List Addr), DTs (X.blk s H scope (compEnvC scope cl C X.env) fp) ifs t)
    (hk : ∀ (s : Shared) (H : Hp) (C : Addr) (cl : List (PySem.Str × Addr)) (fp : List Addr), DE (X.blk s H scope (compEnvC scope cl C X.env) fp) kx Tk)
    (he : ∀ (s : Shared) (H : Hp) (C : Addr) (cl : List (PySem.Str × Addr)) (fp : List Addr), DE (X.blk s H scope (compEnvC scope cl C X.env) fp) vx Tv) (hv : ∀ i ∈ p.names, i ∈ own.map (·.2) := by decide) (hc : X.calm = true := by rfl) (hs : ∀ x, foldedSetIterable it X.env x = pure x := by intro _; rfl) :
    DF X (.DictComp kx vx [⟨tg, it, ifs, 0⟩] scope pos) (eDcK I p t Tk Tv (own.map (·.2))) := pe_weak (L2.pe_dc (wi := liftI X.K I) (g := gP X.K p) (tt := liftT X.K t) (tk := lift X.K Tk) (tv := lift X.K Tv) hc hN hi ok hg ht hk he hs) fun σ H Qv h => dcK_ok hv h
end
end DL

end
section
set_option linter.all false
set_option maxRecDepth 100000
set_option autoImplicit false
/-! The data layer: calls with defaults and with keywords. -/
namespace DL
open PySem L2 PySem.Spec PyProof.Rows

theorem pick_rep {K : PySem.W.Frag} {F : Hp} {vs : List V} {ds : List D} (r : RepL K F vs ds) : ∀ perm : List Nat, RepL K F (pick perm vs) (pick perm ds)
  | [] => .nil
  | i :: perm => by
    have ih := pick_rep r perm
    unfold pick at ih ⊢
    rw [List.filterMap_cons, List.filterMap_cons]
    have l := r.length
    cases e : ds[i]? with
    | none =>
      have e' : vs[i]? = none := by rw [List.getElem?_eq_none_iff] at e ⊢; omega
      rw [e']; exact ih
    | some d =>
      obtain ⟨v, e1, e2⟩ := r.getD' i e
      rw [e1]; exact .cons e2 ih
theorem pick_vals {vs : List V} {us : List Value} (r : Vals vs us) : ∀ perm : List Nat, Vals (pick perm vs) (pick perm us)
  | [] => .nil
  | i :: perm => by
    have ih := pick_vals r perm
    unfold pick at ih ⊢
    rw [List.filterMap_cons, List.filterMap_cons]
    have at_ : ∀ {vs : List V} {us : List Value}, Vals vs us → ∀ i : Nat, (vs[i]? = none ∧ us[i]? = none) ∨ ∃ v u, vs[i]? = some v ∧ us[i]? = some u ∧ RelV v u := by
      intro vs us h
      induction h with
      | nil => intro i; exact .inl ⟨by simp, by simp⟩
      | cons h _ ih =>
        intro i
        cases i with
        | zero => exact .inr ⟨_, _, rfl, rfl, h⟩
        | succ i => simpa using ih i
    rcases at_ r i with ⟨e1, e2⟩ | ⟨v, u, e1, e2, h⟩
    · rw [e1, e2]; exact ih
    · rw [e1, e2]; exact .cons h ih
theorem pick_len {α : Type} {xs : List α} : ∀ {perm : List Nat}, (∀ i ∈ perm, i < xs.length) → (pick perm xs).length = perm.length
  | [], _ => rfl
  | i :: perm, h => by
    have ih := pick_len (xs := xs) (perm := perm) fun j hj => h j (List.mem_cons_of_mem _ hj)
    unfold pick at ih ⊢
    rw [List.filterMap_cons, List.getElem?_eq_getElem (h i List.mem_cons_self)]
    simp [ih]
/-- what is known of a def: its defaults -/
def HasD (P : Program) (w : World) (K : PySem.W.Frag) (mg : PySem.Str → Option Value) (base : Heap) (x : PySem.Str) (lv : Nat) (ps : List PySem.Str) (dds : List D) (f : FS Hp) : Prop :=
  ∃ (g : Addr) (fd : FuncData) (dvs : List V) (ds : List Value), FnOk P w K mg base CX0 lv g fd ps (spOf K ps.length f) ∧ mg x = some (.ref g) ∧ PySem.W.keepIn K (.ref g) = true ∧ Binds K fd ps ds ∧ Vals dvs ds ∧ ∀ F, RepL K F dvs dds
/-- .. called by keywords -/
def HasK (P : Program) (w : World) (K : PySem.W.Frag) (mg : PySem.Str → Option Value) (base : Heap) (x : PySem.Str) (lv : Nat) (ps : List PySem.Str) (n : Nat) (ks : List PySem.Str) (perm : List Nat) (f : FS Hp) : Prop :=
  ∃ (g : Addr) (fd : FuncData), FnOk P w K mg base CX0 lv g fd ps (spOf K ps.length f) ∧ mg x = some (.ref g) ∧ PySem.W.keepIn K (.ref g) = true ∧ KBn K fd ps n ks (fun us ws => pick perm (us ++ ws)) (fun vs zs => pick perm (vs ++ zs))
section
variable {X : Cx} {e a b c : Expr} {es : List Expr} {r r' : TA Hp} {pos p : Pos} {x : PySem.Str} {lv n : Nat} {ps ks : List PySem.Str} {f : FS Hp} {ex : D → Hp → Prop} {dds : List D} {perm : List Nat} {kws : List Keyword}
theorem de_callD (h : HasD X.prog X.w X.K X.mg X.base x lv ps dds f) (hr : Room lv X.A) (ha : DA X (e :: es) r) (hl : (e :: es).length + dds.length = ps.length := by rfl) (hg : Gl X x := by rfl) (hdb : (x == ("__debug__" : PySem.Str)) = false := by decide)
    (he : starEach (e :: es) X.env = (false, eval e X.env) :: starEach es X.env := by rfl) (hpl : (backTo pos (starEach es X.env)).any (·.1) = false := by rfl) : DE X (.Call (.Name x p) (e :: es) [] pos) (eCallK f ex (· ++ dds) r) := by
  obtain ⟨g, fd, dvs, ds, G, hm, hk, hb, hv, rd⟩ := h
  exact pe_weak (pe_call G hr hg hm hk hb hv pass0 ha hdb he hpl) fun σ H Qv ⟨B, F, S, env, Q, st, t, k⟩ =>
    ⟨B, F, S, env, fun xs s1 => f (xs ++ dds) s1 Q ex, st, t, fun ds S1 F1 H1 vs g1 r1 l q1 => by
      show spOf X.K ps.length f (vs ++ dvs) H1 Qv _
      have rr := r1.append (rd F1)
      exact ⟨by rw [rr.length, List.length_append, l]; exact hl, F1, S1, _, Q, ex, g1.ok, rr, q1, fun d S' F' H' v g2 r2 q2 => k d S' F' H' v (g1.trans g2) r2 q2⟩⟩
def DKw (X : Cx) (kws : List Keyword) (T : TA Hp) : Prop := PK X kws (liftA X.K kws.length T)
theorem dk_nil : DKw X [] aNil := ⟨fun pos pins s σ H Q I ⟨B, F, S, env, Qd, st, t, k⟩ => pk_nil.run pos pins s σ H Q I (k [] S F H [] (Go.refl st.ok) .nil rfl t)⟩
theorem dk_cons {nm : Option PySem.Str} {kpos : Pos} {T : TE Hp} (ha : DE X e T) (hr : DKw X kws r) : DKw X (⟨nm, e, kpos⟩ :: kws) (aCons T r) := ⟨fun pos pins s σ H Q I ⟨B, F, S, env, Qd, st, t, k⟩ =>
  (pk_cons ha hr).run pos pins s σ H Q I ⟨B, F, S, env, _, st, t, fun d S1 F1 H1 v g1 r1 q1 => ⟨B, F1, S1, env, _, st.go g1, q1, fun ds S2 F2 H2 vs g2 r2 l q2 => k (d :: ds) S2 F2 H2 (v :: vs) (g1.trans g2) (.cons (r1.mono g2.ff) r2) (by simp [l]) q2⟩⟩⟩
theorem callK_sp {σ : L2.St} {H : Hp} {Qv : VK} {m : Nat} (hp : perm.length = ps.length) (hq : ∀ i ∈ perm, i < n + m) (h : lift X.K (eCallK f ex (pick perm) (aApp r r')) σ H Qv) : tCallN n m (spOf X.K ps.length f) (fun vs zs => pick perm (vs ++ zs)) E0 (liftA X.K n r) (liftA X.K m r') σ H Qv := by
  obtain ⟨B, F, S, env, Q, st, t, k⟩ := h
  refine ⟨B, F, S, env, _, st, t, fun ds S1 F1 H1 vs g1 r1 l1 q1 => ⟨B, F1, S1, env, _, st.go g1, q1, fun es S2 F2 H2 us g2 r2 l2 q2 => ⟨by rw [r1.length]; exact l1, by rw [r2.length]; exact l2, ?_⟩⟩⟩
  have rr := (r1.mono g2.ff).append r2
  have rp := pick_rep rr perm
  exact ⟨by rw [rp.length, pick_len (fun i hi => by rw [List.length_append, l1, l2]; exact hq i hi)]; exact hp, F2, S2, _, Q, ex, g2.ok, rp, q2, fun d S' F' H' v g3 r3 q3 => k d S' F' H' v ((g1.trans g2).trans g3) r3 q3⟩
theorem de_callK (h : HasK X.prog X.w X.K X.mg X.base x lv ps (e :: es).length ks perm f) (hr : Room lv X.A) (ha : DA X (e :: es) r) (hkw : DKw X kws r') (hp : perm.length = ps.length := by rfl) (hq : ∀ i ∈ perm, i < (e :: es).length + ks.length := by decide) (hkl : kws.length = ks.length := by rfl)
    (hg : Gl X x := by rfl) (hall : (backToKw pos (keywordEach kws X.env)).all (·.1.isSome) = true := by rfl) (hks : (backToKw pos (keywordEach kws X.env)).filterMap (·.1) = ks := by rfl) (hdb : (x == ("__debug__" : PySem.Str)) = false := by decide)
    (he : starEach (e :: es) X.env = (false, eval e X.env) :: starEach es X.env := by rfl) (hpl : ((backTo pos (starEach (e :: es) X.env)).any (·.1) || (backToKw pos (keywordEach kws X.env)).any (·.1.isNone)) = false := by rfl) :
    DE X (.Call (.Name x p) (e :: es) kws pos) (eCallK f ex (pick perm) (aApp r r')) := by
  obtain ⟨g, fd, G, hm, hk, hb⟩ := h
  have hkw' : PK X kws (liftA X.K ks.length r') := by rw [← hkl]; exact hkw
  exact pe_weak (pe_callN G hr hg hm hk hb pass0 ha hkw' hall hks hdb he hpl) fun σ H Qv h => callK_sp hp hq h
theorem pe_callN0 {fd : FuncData} {g : Addr} {gp : List Value → List Value → List Value} {gV : List V → List V → List V} {sp : Sp} {tk : L2.TA} (F : FnOk X.prog X.w X.K X.mg X.base CX0 lv g fd ps sp) (hr : Room lv X.A) (hg : Gl X x) (hm : X.mg x = some (.ref g)) (hk : PySem.W.keepIn X.K (.ref g) = true) (hb : KBn X.K fd ps 0 ks gp gV)
    (hkw : PK X kws tk) (hall : (backToKw pos (keywordEach kws X.env)).all (·.1.isSome) = true) (hks : (backToKw pos (keywordEach kws X.env)).filterMap (·.1) = ks)
    (hdb : (x == ("__debug__" : PySem.Str)) = false) (hpl : ((backTo pos (starEach [] X.env)).any (·.1) || (backToKw pos (keywordEach kws X.env)).any (·.1.isNone)) = false) :
    PE X (.Call (.Name x p) [] kws pos) (tCallN 0 ks.length sp gV E0 tNil tk) := by
  refine ⟨fun pins s σ H Q I h => ?_⟩
  refine wpAny_Call_Name_kw (ld_glob I hg hm ?_ hdb)
  refine PySem.W.callWith_KW0 (h₀ := X.base) I.ok.mod.kin hk hall ?_ hpl
  refine thn (hkw.run pos pins s σ H _ I h) fun ws s2 ⟨zs, H2, I2, rz, l1, l2, q2⟩ => ⟨I2.kIn, ?_⟩
  rw [hks]
  exact run_fnN F hr hb pass0 I2 .nil rz rfl l2 q2
theorem de_callK0 (h : HasK X.prog X.w X.K X.mg X.base x lv ps 0 ks perm f) (hr : Room lv X.A) (hkw : DKw X kws r') (hp : perm.length = ps.length := by rfl) (hq : ∀ i ∈ perm, i < 0 + ks.length := by decide) (hkl : kws.length = ks.length := by rfl)
    (hg : Gl X x := by rfl) (hall : (backToKw pos (keywordEach kws X.env)).all (·.1.isSome) = true := by rfl) (hks : (backToKw pos (keywordEach kws X.env)).filterMap (·.1) = ks := by rfl) (hdb : (x == ("__debug__" : PySem.Str)) = false := by decide)
    (hpl : ((backTo pos (starEach [] X.env)).any (·.1) || (backToKw pos (keywordEach kws X.env)).any (·.1.isNone)) = false := by rfl) :
    DE X (.Call (.Name x p) [] kws pos) (eCallK f ex (pick perm) (aApp aNil r')) := by
  obtain ⟨g, fd, G, hm, hk, hb⟩ := h
  have hkw' : PK X kws (liftA X.K ks.length r') := by rw [← hkl]; exact hkw
  refine pe_weak (pe_callN0 G hr hg hm hk hb hkw' hall hks hdb hpl) fun σ H Qv h => ?_
  obtain ⟨B, F, S, env, Q, st, t, k⟩ := h
  refine ⟨B, F, S, env, _, st, t, fun es S2 F2 H2 us g2 r2 l2 q2 => ⟨rfl, by rw [r2.length]; exact l2, ?_⟩⟩
  have rp := pick_rep r2 perm
  exact ⟨by show (pick perm us).length = _; rw [rp.length, pick_len (fun i hi => by rw [l2]; have := hq i hi; omega)]; exact hp, F2, S2, _, Q, ex, g2.ok, rp, q2, fun d S' F' H' v g3 r3 q3 => k d S' F' H' v (g2.trans g3) r3 q3⟩
end
section
variable {P : Program} {w : World} {K : PySem.W.Frag} {mg : PySem.Str → Option Value} {base : Heap}
/-- a def with defaults: its body's reading is its promise -/
theorem fn_okD {x qual : PySem.Str} {st : Stmt} {dvs : List V} {kws : List (PySem.Str × V)} {f : Addr} {fd : FuncData} {N ps : List PySem.Str} {k : Nat} {T : (D → Hp → Prop) → TS Hp} (G : FunD K x qual (defArgs st) (defBody st) (defScope st) dvs kws f fd) (sc : FnScope N ps (defScope st))
    (hbody : ∀ (cdv : Value) (A : Around) (outer : List PySem.Env) (s : Shared) (H : Hp) (E : XK) (ex : D → Hp → Prop), Room k (A.deeper (PyProof.Rows.envOfC qual (defScope st) s.heap.objs.size f cdv)) → DSs (cxOf CX0 P w K mg base N qual (defScope st) f cdv A outer s H E).nox (defBody st) (T ex)) :
    FnOk P w K mg base CX0 (k + 1) f fd ps (spOf K ps.length (fDef N.length T)) := by
  refine G.ok sc (fun vs H Q E h => h.1) fun cdv A outer s H vs Q E hr ⟨hl, F, S, ds, kk, ex, ok, r, t, k⟩ => ⟨_, PSs.nox (hbody cdv A outer s H E ex hr), ?_⟩
  refine ⟨F, S, H, F, S, startE N.length ds, _, Go.refl ok, start_ok ok r, t, ⟨fun F' S' H' env σ _ g st q => k _ _ _ _ _ g .non q, fun F' S' H' d v _ g r q => k _ _ _ _ _ g r q, fun _ _ _ _ _ _ _ _ q => q.elim, fun _ _ _ _ _ _ _ _ q => q.elim⟩⟩
end
end DL

end
section
set_option autoImplicit false
set_option linter.all false
/-! The data layer, plain part: the lots of r of n places, in order. -/
namespace DL
/-- the lots of r of the places a, .., a + m - 1 -/
def lots : Nat → Nat → Nat → List (List Nat)
  | 0, _, _ => [[]]
  | _ + 1, _, 0 => []
  | r + 1, a, m + 1 => (lots r (a + 1) m).map (a :: ·) ++ lots (r + 1) (a + 1) m
/-- the lot behind this one -/
def nextLot (n : Nat) : List Nat → Option (List Nat)
  | [] => none
  | x :: xs => match nextLot n xs with
    | some ys => some (x :: ys)
    | none => if x ≠ n - (xs.length + 1) then some ((List.range (xs.length + 1)).map (x + 1 + ·)) else none
theorem lots_len : ∀ (r a m : Nat) (u : List Nat), u ∈ lots r a m → u.length = r
  | 0, a, m, u, h => by
    have : u ∈ [[]] := by cases m <;> simpa [lots] using h
    rw [List.mem_singleton.mp this]; rfl
  | r + 1, a, 0, u, h => by simp [lots] at h
  | r + 1, a, m + 1, u, h => by
    rw [lots, List.mem_append] at h
    rcases h with h | h
    · obtain ⟨v, hv, rfl⟩ := List.mem_map.mp h
      rw [List.length_cons, lots_len r _ _ v hv]
    · exact lots_len (r + 1) _ _ u h
theorem lots_nil : ∀ (r a m : Nat), m < r → lots r a m = []
  | 0, _, _, h => by omega
  | r + 1, a, 0, _ => rfl
  | r + 1, a, m + 1, h => by
    rw [lots, lots_nil r _ _ (by omega), lots_nil (r + 1) _ _ (by omega)]; rfl
theorem lots_head : ∀ (r a m : Nat), r ≤ m → (lots r a m)[0]? = some ((List.range r).map (a + ·))
  | 0, a, m, _ => by cases m <;> simp [lots]
  | r + 1, a, 0, h => by omega
  | r + 1, a, m + 1, h => by
    have ih := lots_head r (a + 1) m (by omega)
    have hl : 0 < (lots r (a + 1) m).length := by
      rcases Nat.eq_zero_or_pos (lots r (a + 1) m).length with z | z
      · rw [List.getElem?_eq_none (by omega)] at ih; cases ih
      · exact z
    rw [lots, List.getElem?_append_left (by simpa using hl), List.getElem?_map, ih]
    rw [Option.map_some, List.range_succ_eq_map, List.map_cons, List.map_map]
    congr 2
    apply List.map_congr_left
    intro x _
    show a + 1 + x = a + (x + 1)
    omega
theorem lots_next : ∀ (r a m i : Nat) (u : List Nat), (lots r a m)[i]? = some u → nextLot (a + m) u = (lots r a m)[i + 1]?
  | 0, a, m, i, u, h => by
    have e : lots 0 a m = [[]] := by cases m <;> rfl
    rw [e] at h ⊢
    cases i with
    | zero => simp at h; subst h; simp [nextLot]
    | succ i => simp at h
  | r + 1, a, 0, i, u, h => by simp [lots] at h
  | r + 1, a, m + 1, i, u, h => by
    rw [lots] at h ⊢
    by_cases hi : i < (lots r (a + 1) m).length
    · rw [List.getElem?_append_left (by simpa using hi), List.getElem?_map] at h
      obtain ⟨v, hv, rfl⟩ := Option.map_eq_some_iff.mp h
      have ih := lots_next r (a + 1) m i v hv
      have e : a + (m + 1) = a + 1 + m := by omega
      have lv : v.length = r := lots_len r _ _ v (List.mem_of_getElem? hv)
      unfold nextLot
      rw [e, ih]
      by_cases h1 : i + 1 < (lots r (a + 1) m).length
      · rw [List.getElem?_append_left (by simpa using h1), List.getElem?_map, List.getElem?_eq_getElem h1]
        rfl
      · rw [List.getElem?_eq_none (by omega), List.getElem?_append_right (by simp; omega)]
        have hz : i + 1 - ((lots r (a + 1) m).map (a :: ·)).length = 0 := by rw [List.length_map]; omega
        rw [hz, lv]
        have hrm : r ≤ m := by
          rcases Nat.lt_or_ge m r with z | z
          · rw [lots_nil r _ _ z] at hi; simp at hi
          · exact z
        by_cases hm : r = m
        · subst hm
          rw [lots_nil (r + 1) _ _ (by omega)]
          have q : a = a + 1 + r - (r + 1) := by omega
          simp only [List.getElem?_nil]
          rw [if_neg (fun z => z q)]
        · rw [lots_head (r + 1) (a + 1) m (by omega)]
          have q : a ≠ a + 1 + m - (r + 1) := by omega
          simp only
          rw [if_pos q]
    · rw [List.getElem?_append_right (by simp; omega)] at h
      rw [List.getElem?_append_right (by simp; omega)]
      have ih := lots_next (r + 1) (a + 1) m _ u h
      have e : a + (m + 1) = a + 1 + m := by omega
      rw [e, ih]
      congr 1
      rw [List.length_map] at h ⊢
      omega
theorem lots_lt : ∀ (r a m : Nat) (u : List Nat), u ∈ lots r a m → ∀ x ∈ u, a ≤ x ∧ x < a + m
  | 0, a, m, u, h, x, hx => by
    have : u ∈ [[]] := by cases m <;> simpa [lots] using h
    rw [List.mem_singleton.mp this] at hx; cases hx
  | r + 1, a, 0, u, h, x, hx => by simp [lots] at h
  | r + 1, a, m + 1, u, h, x, hx => by
    rw [lots, List.mem_append] at h
    rcases h with h | h
    · obtain ⟨v, hv, rfl⟩ := List.mem_map.mp h
      rcases List.mem_cons.mp hx with e | e
      · omega
      · have := lots_lt r _ _ v hv x e; omega
    · have := lots_lt (r + 1) _ _ u h x hx; omega
/-- the items at the places of a lot -/
def itemsAt {α : Type} (d : α) (xs : List α) (u : List Nat) : List α := u.map fun i => xs.getD i d
theorem combs_lots (d : D) : ∀ (r : Nat) (pre xs : List D), combs r xs = (lots r pre.length xs.length).map (itemsAt d (pre ++ xs))
  | 0, pre, xs => by cases xs <;> simp [combs, lots, itemsAt]
  | r + 1, pre, [] => by simp [combs, lots]
  | r + 1, pre, x :: xs => by
    have e : pre ++ x :: xs = (pre ++ [x]) ++ xs := by simp
    have l : (pre ++ [x]).length = pre.length + 1 := by simp
    have h1 := combs_lots d r (pre ++ [x]) xs
    have h2 := combs_lots d (r + 1) (pre ++ [x]) xs
    rw [l] at h1 h2
    rw [combs, List.length_cons, lots, List.map_append, List.map_map, h1, h2, List.map_map, e]
    congr 1
    apply List.map_congr_left
    intro u _
    show x :: itemsAt d (pre ++ [x] ++ xs) u = itemsAt d (pre ++ [x] ++ xs) (pre.length :: u)
    unfold itemsAt
    rw [List.map_cons]
    congr 1
    simp
theorem combs_eq (d : D) (r : Nat) (xs : List D) : combs r xs = (lots r 0 xs.length).map (itemsAt d xs) := by
  have := combs_lots d r [] xs
  simpa using this
end DL

end
section
set_option linter.all false
set_option maxRecDepth 100000
set_option maxHeartbeats 4000000
set_option autoImplicit false
/-! The data layer: itertools.combinations, its walk. -/
namespace DL
open PySem PySem.Spec PyProof.Rows L2 RZ PySem.W
theorem mro_cb : mroOf (.type "itertools.combinations") = pure [.type "itertools.combinations", .type "object"] := by rw [mroOf_type]; kernel_rfl
theorem lookup_cb_new : typeLookup (.type "itertools.combinations") "__new__" = pure (some (.builtin "itertools.combinations.__new__")) := by rw [typeLookup_type, builtinLookup_eq_fast]; kernel_rfl
theorem slot_cb_init : Slot "itertools.combinations" "__init__" "object.__init__" :=
  .of (owner := "object") (n := "__init__") (by rw [typeLookup_type, builtinLookup_eq_fast]; kernel_rfl) (by decide +kernel) (by decide +kernel) (by decide +kernel)
    (by first | exact .inl (by decide +kernel) | exact .inr (by decide +kernel)) (by rw [isSubtype_type]; kernel_rfl)
theorem called_cb : TypeCalled "itertools.combinations" "itertools.combinations.__new__" "object.__init__" :=
  ⟨by decide +kernel, by decide +kernel, ⟨_, _, mro_cb⟩, madeBy_type mro_cb lookup_cb_new (by decide +kernel), by decide +kernel, by rw [isSubtype_type]; kernel_rfl, slot_cb_init⟩
theorem slot_cb_next : Slot "itertools.combinations" "__next__" "itertools.combinations.__next__" :=
  .of (owner := "itertools.combinations") (n := "__next__") (by rw [typeLookup_type, builtinLookup_eq_fast]; kernel_rfl) (by decide +kernel) (by decide +kernel) (by decide +kernel)
    (by first | exact .inl (by decide +kernel) | exact .inr (by decide +kernel)) (by rw [isSubtype_type]; kernel_rfl)
theorem entry_cb_next : entryFor table "itertools.combinations.__next__" = some Builtin.«itertools.combinations.__next__» := entryFor_of_tree (by kernel_rfl)
theorem args_cb_next_1 (a : Value) : argsOk "itertools.combinations.__next__" ⟨[a], []⟩ := by unfold argsOk; kernel_rfl
theorem entry_cb_new : entryFor table "itertools.combinations.__new__" = some Builtin.«itertools.combinations.__new__» := entryFor_of_tree (by kernel_rfl)
theorem typeCall_cb_2 (a b : Value) : checkTypeCall "itertools.combinations" ⟨[a, b], []⟩ = pure () := by kernel_rfl
theorem newCall_cb_2 (a b : Value) : checkBuiltinCall "itertools.combinations.__new__" ⟨[.type "itertools.combinations", a, b], []⟩ = pure () := by kernel_rfl
theorem sub_cb : isSubtype (.type "itertools.combinations") (.type "itertools.combinations") = pure true := by rw [isSubtype_type]; kernel_rfl

theorem next_eq (n : Nat) : ∀ xs : List Nat, (match List.find? (fun i => xs.getD i 0 != i + n - xs.length) (List.range xs.length).reverse with
      | none => none
      | some i => some (xs.take i ++ (List.range (xs.length - i)).map (fun x => xs.getD i 0 + 1 + x))) = nextLot n xs
  | [] => rfl
  | x :: xs => by
    have ih := next_eq n xs
    rw [List.length_cons, List.range_succ_eq_map, List.reverse_cons, ← List.map_reverse, List.find?_append, List.find?_map]
    have e : ((fun i => (x :: xs).getD i 0 != i + n - (xs.length + 1)) ∘ Nat.succ) = fun i => xs.getD i 0 != i + n - xs.length := by
      funext i
      show (xs.getD i 0 != (i + 1) + n - (xs.length + 1)) = _
      have : (i + 1) + n - (xs.length + 1) = i + n - xs.length := by omega
      rw [this]
    rw [e]
    unfold nextLot
    rw [← ih]
    cases List.find? (fun i => xs.getD i 0 != i + n - xs.length) (List.range xs.length).reverse with
    | some i =>
      simp only [Option.map_some, Option.some_or, List.take_succ_cons, List.cons_append, List.getD_cons_succ]
      have : xs.length + 1 - (i + 1) = xs.length - i := by omega
      rw [show Nat.succ i = i + 1 from rfl, this]
    | none =>
      simp only [Option.map_none, Option.none_or, List.find?_cons, List.find?_nil, List.getD_cons_zero, Nat.zero_add]
      by_cases h : x = n - (xs.length + 1)
      · rw [if_neg (fun z => z h)]
        simp [h]
      · rw [if_pos h]
        have hb : (x != n - (xs.length + 1)) = true := by simpa using h
        simp [hb]
abbrev IsCb (h : Heap) (C P : Addr) (st : Nat) (res : Value) (idx : List Nat) : Prop := h.get? C = some { cls := .type "itertools.combinations", dict := none, data := .fields (#[.ref P, .int st 0, res] ++ (idx.map fun (n : Nat) => rawInt n).toArray), slots := #[] }
abbrev IsPl (h : Heap) (P : Addr) (its : List Value) : Prop := h.get? P = some { cls := .type "tuple", data := .seq its.toArray }
section
variable {prog : Program} {w : World} {A : Around} {E : Value → Shared → Prop} {s : Shared}
theorem cb_hand {C P : Addr} {st : Nat} {res : Value} {idx : List Nat} {its : List Value} {Q : PySem.Fin → Shared → Prop} (hC : IsCb s.heap C P st res idx) (hP : IsPl s.heap P its) (hne : C ≠ P) (u : List Nat) (hu : u.length ≤ sizeLine)
    (hQ : ∀ h', IsCb h' C P st (.ref s.heap.objs.size) idx → IsPl h' P its → IsPl h' s.heap.objs.size (itemsAt .none its u) → h'.objs.size = s.heap.objs.size + 1 → (∀ c o, c ≠ C → s.heap.get? c = some o → h'.get? c = some o) → Q (.done (.ret (.ref s.heap.objs.size))) { s with heap := h' }) :
    wpAny (model prog w) A (do
      let result ← (do let items ← Builtin.Itertools.itPoolItems (.ref P); newTuple (u.map fun i => items.getD i .none))
      let before ← field (.ref C) 2
      setField (.ref C) 2 result
      letGo [before] [result]
      ret result) Q E s := by
  have hlt : C < s.heap.objs.size := Heap.lt_size hC
  refine wpAny_bind (wpAny_bind ?_)
  unfold Builtin.Itertools.itPoolItems
  refine wpAny_bind (wpAny_seqItems hP rfl (wpAny_pure ?_))
  refine (wpAny_newTuple ?_ (by rw [List.length_map]; exact hu))
  have hC1 := Heap.get?_push_of_some { cls := .type "tuple", data := .seq (u.map fun i => its.toArray.getD i .none).toArray } hC
  have hP1 := Heap.get?_push_of_some { cls := .type "tuple", data := .seq (u.map fun i => its.toArray.getD i .none).toArray } hP
  refine wpAny_bind (wpAny_field hC1 rfl (x := res) (by simp) ?_)
  refine wpAny_bind (wpAny_setField_rec hC1 (by simp) fun h' hC' sb => ?_)
  refine wpAny_bind (wpAny_letGo ?_)
  refine wpAny_pure (hQ h' ?_ ?_ ?_ ?_ ?_)
  · show h'.get? C = _
    rw [hC']
    congr 3
    simp [Array.setIfInBounds, Array.set_append]
  · exact (sb.2 _ hne.symm).trans hP1
  · have z0 : (s.heap.push { cls := .type "tuple", data := .seq (u.map fun i => its.toArray.getD i .none).toArray }).get? s.heap.objs.size = some _ := Heap.get?_push_size _ rfl
    have z := (sb.2 _ (Nat.ne_of_gt hlt)).trans z0
    show h'.get? _ = _
    rw [z]
    congr 3
    unfold itemsAt
    congr 1
    apply List.map_congr_left
    intro i _
    simp [Array.getD, List.getD]
    split <;> simp_all
  · rw [sb.1, Heap.size_push]
  · exact fun c o hc e => (sb.2 c hc).trans (Heap.get?_push_of_some _ e)
theorem cb_numbers {C P : Addr} {st : Nat} {res : Value} {idx : List Nat} {Q : List Nat → Shared → Prop} (hC : IsCb s.heap C P st res idx) (hQ : Q idx s) : wpAny (model prog w) A (Builtin.Itertools.itNumbersFrom (.ref C) 3) Q E s := by
  unfold Builtin.Itertools.itNumbersFrom
  refine wpAny_bind (wpAny_load hC ?_)
  refine wpAny_pure ?_
  have e : ((#[Value.ref P, .int (st : Nat) 0, res] ++ (idx.map fun (n : Nat) => rawInt n).toArray).toList.drop 3).map (fun | .int n _ => n.toNat | _ => 0) = idx := by
    simp only [Array.toList_append, List.drop_append]
    simp only [List.drop_succ_cons, List.drop_zero, List.drop_nil, List.nil_append, List.length_cons, List.length_nil, Nat.sub_self, List.map_map]
    conv => rhs; rw [← List.map_id idx]
    apply List.map_congr_left
    intro n _
    rfl
  exact (congrArg (fun z => Q z s) e).mpr hQ
theorem cb_first {C P : Addr} {res : Value} {idx : List Nat} {its : List Value} {Q : Value → Shared → Prop} (hC : IsCb s.heap C P 0 res idx) (hP : IsPl s.heap P its) (hne : C ≠ P) (hu : idx.length ≤ sizeLine)
    (hQ : ∀ h', IsCb h' C P 1 (.ref s.heap.objs.size) idx → IsPl h' P its → IsPl h' s.heap.objs.size (itemsAt .none its idx) → h'.objs.size = s.heap.objs.size + 1 → (∀ c o, c ≠ C → s.heap.get? c = some o → h'.get? c = some o) → Q (.ref s.heap.objs.size) { s with heap := h' }) :
    wpAny (model prog w) A (Builtin.«itertools.combinations.__next__» ⟨[.ref C], []⟩) (fun fin s' => ∃ v, fin = .done (.ret v) ∧ Q v s') E s := by
  unfold Builtin.«itertools.combinations.__next__»
  k_delta "nextByIndices"
  k_delta "nextCombination"
  k_delta "pick"
  show wpAny _ _ (field (.ref C) 0 >>= _) _ _ _
  refine wpAny_bind (wpAny_field hC rfl (x := .ref P) (by simp) ?_)
  refine wpAny_bind (cb_numbers hC ?_)
  show wpAny _ _ (Builtin.Itertools.itIntField (.ref C) 1 >>= _) _ _ _
  refine wpAny_bind ?_
  unfold Builtin.Itertools.itIntField
  refine wpAny_bind (wpAny_field hC rfl (x := .int 0 0) (by simp) (wpAny_pure ?_))
  show wpAny _ _ (setField (.ref C) 1 (rawInt 1) >>= _) _ _ _
  refine wpAny_bind (wpAny_setField_rec hC (by simp) fun h1 hC1 sb => ?_)
  have hC1' : IsCb h1 C P 1 res idx := by
    show h1.get? C = _
    rw [hC1]
    congr 3
    simp [Array.setIfInBounds, Array.set_append]
    rfl
  have hP1 : IsPl h1 P its := (sb.2 _ hne.symm).trans hP
  have hz := sb.1
  show wpAny _ _ (do
      let result ← (do let items ← Builtin.Itertools.itPoolItems (.ref P); newTuple (idx.map fun i => items.getD i .none))
      let before ← field (.ref C) 2
      setField (.ref C) 2 result
      letGo [before] [result]
      ret result) _ _ _
  refine cb_hand (s := { s with heap := h1 }) hC1' hP1 hne idx hu fun h' a1 a2 a3 a4 a5 => ⟨_, rfl, ?_⟩
  rw [show ({ s with heap := h1 } : Shared).heap.objs.size = s.heap.objs.size from hz] at a1 a3 a4 ⊢
  exact hQ h' a1 a2 a3 a4 fun c o hc e => a5 c o hc ((sb.2 c hc).trans e)
theorem wpAny_of_eqT {α : Type} {t t' : Sem α} {Q : α → Shared → Prop} (e : t = t') (h : wpAny (model prog w) A t' Q E s) : wpAny (model prog w) A t Q E s := e ▸ h
theorem cb_set {C P : Addr} {st : Nat} {res : Value} {idx u : List Nat} {Q : Unit → Shared → Prop} (hC : IsCb s.heap C P st res idx) (hu : u.length ≤ sizeLine)
    (hQ : ∀ h', IsCb h' C P st res u → Heap.SameBut C s.heap h' → Q () { s with heap := h' }) : wpAny (model prog w) A (Builtin.Itertools.itSetNumbersFrom (.ref C) 3 u) Q E s := by
  unfold Builtin.Itertools.itSetNumbersFrom
  refine wpAny_updateFields hC rfl (hQ _ ?_ (Heap.SameBut.update ..)) ?_
  · show (s.heap.update C _).get? C = _
    rw [Heap.get?_update_self _ hC rfl]
    simp [Obj.mapFields]
  · simp
    omega
theorem cb_step {C P : Addr} {res : Value} {idx u : List Nat} {its : List Value} {Q : Value → Shared → Prop} (hC : IsCb s.heap C P 1 res idx) (hP : IsPl s.heap P its) (hne : C ≠ P) (hu : u.length ≤ sizeLine) (hn : nextLot its.length idx = some u)
    (hQ : ∀ h', IsCb h' C P 1 (.ref s.heap.objs.size) u → IsPl h' P its → IsPl h' s.heap.objs.size (itemsAt .none its u) → h'.objs.size = s.heap.objs.size + 1 → (∀ c o, c ≠ C → s.heap.get? c = some o → h'.get? c = some o) → Q (.ref s.heap.objs.size) { s with heap := h' }) :
    wpAny (model prog w) A (Builtin.«itertools.combinations.__next__» ⟨[.ref C], []⟩) (fun fin s' => ∃ v, fin = .done (.ret v) ∧ Q v s') E s := by
  unfold Builtin.«itertools.combinations.__next__»
  k_delta "nextByIndices"
  k_delta "nextCombination"
  k_delta "pick"
  show wpAny _ _ (field (.ref C) 0 >>= _) _ _ _
  refine wpAny_bind (wpAny_field hC rfl (x := .ref P) (by simp) ?_)
  refine wpAny_bind (cb_numbers hC ?_)
  show wpAny _ _ (Builtin.Itertools.itIntField (.ref C) 1 >>= _) _ _ _
  refine wpAny_bind ?_
  unfold Builtin.Itertools.itIntField
  refine wpAny_bind (wpAny_field hC rfl (x := .int 1 0) (by simp) (wpAny_pure ?_))
  show wpAny _ _ (Builtin.Itertools.itPoolItems (.ref P) >>= _) _ _ _
  refine wpAny_bind ?_
  unfold Builtin.Itertools.itPoolItems
  refine wpAny_bind (wpAny_seqItems hP rfl (wpAny_pure ?_))
  have e := (next_eq its.toArray.size idx).trans (show nextLot its.toArray.size idx = some u by rw [List.size_toArray]; exact hn)
  refine wpAny_of_eqT (congrArg (fun z : Option (List Nat) => (match z with
    | some next => (do
      Builtin.Itertools.itSetNumbersFrom (.ref C) 3 next
      let result ← (do let items ← Builtin.Itertools.itPoolItems (.ref P); newTuple (next.map fun i => items.getD i .none))
      let before ← field (.ref C) 2
      setField (.ref C) 2 result
      letGo [before] [result]
      ret result : Sem PySem.Fin)
    | none => (do setField (.ref C) 1 (rawInt 2); Builtin.Itertools.itStop : Sem PySem.Fin))) e) ?_
  refine wpAny_bind (cb_set hC hu fun h1 hC1 sb => ?_)
  have hP1 : IsPl h1 P its := (sb.2 _ hne.symm).trans hP
  have hz := sb.1
  refine cb_hand (s := { s with heap := h1 }) hC1 hP1 hne u hu fun h' a1 a2 a3 a4 a5 => ⟨_, rfl, ?_⟩
  rw [show ({ s with heap := h1 } : Shared).heap.objs.size = s.heap.objs.size from hz] at a1 a3 a4 ⊢
  exact hQ h' a1 a2 a3 a4 fun c o hc e => a5 c o hc ((sb.2 c hc).trans e)
theorem it_stop {α : Type} {Q : α → Shared → Prop} (hh : A.handled = none) (hE : ∀ h' e, (∀ c o, s.heap.get? c = some o → h'.get? c = some o) → (∃ o, h'.get? e = some o ∧ o.cls = .type "StopIteration") → E (.ref e) { s with heap := h' }) : wpAny (model prog w) A (Builtin.Itertools.itStop : Sem α) Q E s := by
  unfold Builtin.Itertools.itStop
  refine wpAny_bind ?_
  simp only [newExc, newTuple]
  refine wpAny_bind (wpAny_newObj_type ?_ (by size_fits))
  refine wpAny_bind (m := firstArgMember _ _) (wpAny_of_eq (a := Value.none) (by first | rfl | (simp only [firstArgMember]; rfl)) ?_)
  refine wpAny_newObj_type ?_ (by size_fits)
  simp only [raiseNew]
  refine wpAny_bind (wpAny_handled ?_)
  rw [hh]
  refine wpAny_bind (wpAny_pure (wpAny_throw ?_))
  exact hE _ _ (fun c o e => Heap.get?_push_of_some _ (Heap.get?_push_of_some _ e)) ⟨_, Heap.get?_push_size _ rfl, rfl⟩
theorem cb_end {C P : Addr} {st : Nat} {res : Value} {idx : List Nat} {its : List Value} {Q : PySem.Fin → Shared → Prop} (hh : A.handled = none) (hC : IsCb s.heap C P st res idx) (hP : IsPl s.heap P its) (hst : st = 2 ∨ (st = 1 ∧ nextLot its.length idx = none))
    (hE : ∀ h' e, (∀ c o, c ≠ C → s.heap.get? c = some o → h'.get? c = some o) → (∃ o, h'.get? e = some o ∧ o.cls = .type "StopIteration") → E (.ref e) { s with heap := h' }) :
    wpAny (model prog w) A (Builtin.«itertools.combinations.__next__» ⟨[.ref C], []⟩) Q E s := by
  unfold Builtin.«itertools.combinations.__next__»
  k_delta "nextByIndices"
  k_delta "nextCombination"
  k_delta "pick"
  show wpAny _ _ (field (.ref C) 0 >>= _) _ _ _
  refine wpAny_bind (wpAny_field hC rfl (x := .ref P) (by simp) ?_)
  refine wpAny_bind (cb_numbers hC ?_)
  show wpAny _ _ (Builtin.Itertools.itIntField (.ref C) 1 >>= _) _ _ _
  refine wpAny_bind ?_
  unfold Builtin.Itertools.itIntField
  rcases hst with rfl | ⟨rfl, hn⟩
  · refine wpAny_bind (wpAny_field hC rfl (x := .int 2 0) (by simp) (wpAny_pure ?_))
    show wpAny _ _ (rule "itertools.combinations.ended" >>= _) _ _ _
    exact wpAny_bind (wpAny_rule (it_stop hh fun h' e k he => hE h' e (fun c o _ q => k c o q) he))
  · refine wpAny_bind (wpAny_field hC rfl (x := .int 1 0) (by simp) (wpAny_pure ?_))
    show wpAny _ _ (Builtin.Itertools.itPoolItems (.ref P) >>= _) _ _ _
    refine wpAny_bind ?_
    unfold Builtin.Itertools.itPoolItems
    refine wpAny_bind (wpAny_seqItems hP rfl (wpAny_pure ?_))
    have e := (next_eq its.toArray.size idx).trans (show nextLot its.toArray.size idx = none by rw [List.size_toArray]; exact hn)
    refine wpAny_of_eqT (congrArg (fun z : Option (List Nat) => (match z with
      | some next => (do
        Builtin.Itertools.itSetNumbersFrom (.ref C) 3 next
        let result ← (do let items ← Builtin.Itertools.itPoolItems (.ref P); newTuple (next.map fun i => items.getD i .none))
        let before ← field (.ref C) 2
        setField (.ref C) 2 result
        letGo [before] [result]
        ret result : Sem PySem.Fin)
      | none => (do setField (.ref C) 1 (rawInt 2); Builtin.Itertools.itStop : Sem PySem.Fin))) e) ?_
    refine wpAny_bind (wpAny_setField_rec hC (by simp) fun h1 hC1 sb => ?_)
    exact it_stop (s := { s with heap := h1 }) hh fun h' e k he => hE h' e (fun c o hc q => k c o ((sb.2 c hc).trans q)) he
end
theorem typeHas_cb : typeHasDict (.type "itertools.combinations") = false := by decide +kernel
section
variable {prog : Program} {w : World} {A : Around} {E : Value → Shared → Prop} {s : Shared}
theorem cb_bind {a b : Value} {Q : List (Option Value) → Shared → Prop} (h : Q [some a, some b] s) : wpAny (model prog w) A (Builtin.Itertools.itBindNamed "combinations" ["iterable", "r"] 2 2 [a, b] []) Q E s :=
  wpAny_of_eq (a := [some a, some b]) (by rfl) h
theorem cb_size {r : Nat} {tk : Tok} {Q : Int → Shared → Prop} (hr : r ≤ 1000) (h : Q r s) : wpAny (model prog w) A (Builtin.Itertools.itSsizeArg (.int (r : Nat) tk)) Q E s := by
  unfold Builtin.Itertools.itSsizeArg
  refine wpAny_bind ?_
  refine wpAny_of_eq (a := ((r : Nat) : Int)) (by rfl) ?_
  have e : (decide (((r : Nat) : Int) < -(2 ^ 63 : Int)) || decide (((r : Nat) : Int) ≥ 2 ^ 63)) = false := by
    rw [Bool.or_eq_false_iff, decide_eq_false_iff_not, decide_eq_false_iff_not]
    omega
  simp only [e]
  exact wpAny_pure h
end
section
variable {prog : Program} {w : World} {A : Around} {E : Value → Shared → Prop} {s : Shared}
/-- the items of a list or tuple are taken: the list that is made for it stands behind all that was -/
theorem collect_grows {Q : List Value → Shared → Prop} (it : Addr) {T : String} {o : Obj} {items : Array Value} {n : Nat} (hT : T = "list" ∨ T = "tuple")
    (ho : s.heap.get? it = some o) (hc : o.cls = .type T) (hd : o.data = .seq items n)
    (hQ : ∀ h', (∀ b o', s.heap.get? b = some o' → h'.get? b = some o') → s.heap.objs.size ≤ h'.objs.size → Q items.toList { s with heap := h' }) (hsz : items.size ≤ sizeLine) :
    wpAny (model prog w) A (collect (.ref it)) Q E s := by
  unfold collect
  refine wpAny_bind (wpAny_runValue (codeAny_builtin F.entry_proto_collect ?_))
  rw [Around.under_plainId F.plain_proto_collect _]
  show wpAny _ A.in1 (newList [] >>= fun l => again (.builtin "list.__iadd__" ⟨[l, .ref it], []⟩)) _ _ s
  refine wpAny_bind (wpAny_newObj_type ?_)
  refine wpAny_pure ⟨plainId_quiet F.plain_list_iadd _, codeAny_builtin F.entry_list_iadd ?_⟩
  rw [Around.under_plainId F.plain_list_iadd _]
  show wpAny _ A.in1 (Builtin.List.listExtendWith (.ref s.heap.objs.size) (.ref it) (.ref s.heap.objs.size)) _ _ _
  have hS : (s.heap.push { cls := .type "list", data := .seq ([] : List Value).toArray }).get? s.heap.objs.size = some { cls := .type "list", data := .seq #[] 0 } := Heap.get?_push_size _ rfl
  have hS₂ := Heap.get?_update_self (Obj.mapSeq (· ++ items)) hS rfl
  have hz : s.heap.objs.size ≤ ((s.heap.push { cls := .type "list", data := .seq ([] : List Value).toArray }).update s.heap.objs.size (Obj.mapSeq (· ++ items))).objs.size := by
    have e := (Heap.SameBut.update (h := s.heap.push { cls := .type "list", data := .seq ([] : List Value).toArray }) (a := s.heap.objs.size) (f := Obj.mapSeq (· ++ items))).1
    rw [e, Heap.size_push]
    exact Nat.le_succ _
  have fin' : wpAny (model prog w) A (match Value.ref s.heap.objs.size with
      | Value.ref a => do
        match (← load a).data with
          | Data.seq xs _ => pure xs.toList
          | _ => unsupported "internal:collect"
      | _ => unsupported "internal:collect") Q E { s with heap := (s.heap.push { cls := .type "list", data := .seq ([] : List Value).toArray }).update s.heap.objs.size (Obj.mapSeq (· ++ items)) } := by
    show wpAny _ A (load s.heap.objs.size >>= _) _ _ _
    refine wpAny_bind (wpAny_load hS₂ ?_)
    refine wpAny_pure ?_
    have e : ((#[] : Array Value) ++ items).toList = items.toList := by simp
    show Q ((#[] : Array Value) ++ items).toList _
    rw [e]
    refine hQ _ (fun b o' hb => ?_) hz
    exact (Heap.get?_update_other _ _ (Nat.ne_of_gt (Heap.lt_size hb))).trans (Heap.get?_push_of_some _ hb)
  refine wpAny_mono (wpAny_extend_seq (hsz := hsz) (A := A) (R := fun r s' => r = .ok (.ret (.ref s.heap.objs.size)) ∧ s' = { s with heap := (s.heap.push { cls := .type "list", data := .seq ([] : List Value).toArray }).update s.heap.objs.size (Obj.mapSeq (· ++ items)) })
    (s := { s with heap := s.heap.push { cls := .type "list", data := .seq ([] : List Value).toArray } }) _ it _ 0 hT hS (Heap.get?_push_of_some _ ho) hc hd ⟨rfl, rfl⟩) (fun fin s' h => ?_) (fun e s' h => ?_)
  · cases fin with
    | done f =>
      obtain ⟨e, rfl⟩ := h
      cases e
      exact fin'
    | again c' => exact ⟨h.1, codeAny_mono h.2 fun r s'' hr => by obtain ⟨rfl, rfl⟩ := hr; exact fin'⟩
  · exact absurd h.1 (by simp)
end
theorem cb_meets (k : Sk) (l : Addr) (xs : Array Value) (r : Nat) (tk : Tok) (hr : r ≤ 1000) (hx : xs.size ≤ 1000) :
    Meets (Builtin.«itertools.combinations.__new__» ⟨[.type "itertools.combinations", .ref l, .int (r : Nat) tk], []⟩) (fun _ R s => IsSr k s.heap l xs ∧
      ∀ h' C P, IsCb h' C P (if r > xs.size then 2 else 0) .none (List.range r) → IsPl h' P xs.toList → s.heap.objs.size ≤ P → P < C → (∀ c o, s.heap.get? c = some o → h'.get? c = some o) →
      (∃ o, h'.get? C = some o ∧ o.cls = .type "itertools.combinations") → R (.ok (.ret (.ref C))) { s with heap := h' }) :=
  .of_wp fun prog w A R s h => by
    obtain ⟨hl1, h⟩ := h
    have hsub := sub_cb
    unfold Builtin.«itertools.combinations.__new__»
    k_delta "poolAndR"
    refine wpAny_bind (wpAny_bind ?_)
    unfold Builtin.Itertools.itClassAndRest
    refine wpAny_bind (wpAny_of_eq (a := true) (by rfl) ?_)
    refine wpAny_bind (wpAny_of_eq (a := true) hsub ?_)
    refine wpAny_pure ?_
    refine wpAny_bind (cb_bind ?_)
    refine wpAny_bind (cb_size hr ?_)
    have hcol : ∀ (Q : List Value → Shared → Prop), (∀ h', (∀ b o', s.heap.get? b = some o' → h'.get? b = some o') → s.heap.objs.size ≤ h'.objs.size → Q xs.toList { s with heap := h' }) → wpAny (model prog w) A.in1 (collect (.ref l)) Q (fun e s' => R (.error e) s') s := by
      intro Q hQ
      cases k with
      | l =>
        obtain ⟨o, ho, hc, n, hd⟩ := id hl1
        exact collect_grows l (T := "list") (.inl rfl) ho hc hd (fun h' kk => hQ h' kk) (by have := sizeLine_eq; omega)
      | t =>
        obtain ⟨o, ho, hc, n, hd⟩ := id hl1
        exact collect_grows l (T := "tuple") (.inr rfl) ho hc hd (fun h' kk => hQ h' kk) (by have := sizeLine_eq; omega)
    refine wpAny_bind (hcol _ fun h1 k1 hle => ?_)
    have e1 : ¬ ((r : Nat) : Int) < 0 := by omega
    have e2 : Builtin.Itertools.itTooMany ((r : Nat) : Int) = false := by
      unfold Builtin.Itertools.itTooMany
      rw [decide_eq_false_iff_not]; omega
    simp only [e1, e2, if_false]
    refine wpAny_bind (wpAny_newTuple ?_ (by rw [Array.length_toList]; have := sizeLine_eq; omega))
    refine wpAny_pure ?_
    refine wpAny_bind ?_
    unfold Builtin.Itertools.itNewRecord
    show wpAny _ _ (if (!typeHasDict (.type "itertools.combinations")) = true then newObj (.type "itertools.combinations") (.fields ([Value.ref h1.objs.size, rawInt (if r > xs.toList.length then 2 else 0), Value.none] ++ (List.range r).map fun (i : Nat) => rawInt i).toArray) none else _) _ _ _
    rw [typeHas_cb]
    have hsz : sizeOk (.fields ([Value.ref h1.objs.size, rawInt (if r > xs.toList.length then 2 else 0), Value.none] ++ (List.range r).map fun (i : Nat) => rawInt i).toArray) := by
      show (([Value.ref h1.objs.size, rawInt (if r > xs.toList.length then 2 else 0), Value.none] ++ (List.range r).map fun (i : Nat) => rawInt i).toArray).size ≤ _
      simp
      have := sizeLine_eq; omega
    refine wpAny_newObj_type ?_ hsz
    refine wpAny_pure ⟨_, rfl, ?_⟩
    generalize hT : ({ cls := .type "tuple", data := .seq xs.toList.toArray } : Obj) = oT
    have gC : ((h1.push oT).push { cls := .type "itertools.combinations", dict := none, data := .fields ([Value.ref h1.objs.size, rawInt (if r > xs.toList.length then 2 else 0), Value.none] ++ (List.range r).map fun (i : Nat) => rawInt i).toArray }).get? (h1.push oT).objs.size = some _ := Heap.get?_push_size _ rfl
    have gP : ((h1.push oT).push { cls := .type "itertools.combinations", dict := none, data := .fields ([Value.ref h1.objs.size, rawInt (if r > xs.toList.length then 2 else 0), Value.none] ++ (List.range r).map fun (i : Nat) => rawInt i).toArray }).get? h1.objs.size = some oT := Heap.get?_push_of_some _ (Heap.get?_push_size _ (by rw [← hT]; rfl))
    refine h _ _ h1.objs.size ?_ ?_ hle (by rw [Heap.size_push]; exact Nat.lt_succ_self _) (fun c o e => Heap.get?_push_of_some _ (Heap.get?_push_of_some _ (k1 c o e))) ⟨_, gC, rfl⟩
    · show Heap.get? _ _ = _
      rw [gC]
      congr 3
      simp
      by_cases q : r > xs.size
      · rw [if_pos q, if_pos q]; rfl
      · rw [if_neg q, if_neg q]; rfl
    · show Heap.get? _ _ = _
      rw [gP, ← hT]
end DL

end
section
set_option linter.all false
set_option maxRecDepth 100000
set_option maxHeartbeats 4000000
set_option autoImplicit false
/-! The data layer: a walk over combinations. -/
namespace DL
open PySem PySem.Spec PyProof.Rows L2 RZ PySem.W
theorem entry_cb_iter : entryFor table "itertools.combinations.__iter__" = some Builtin.«dict_keyiterator.__iter__» :=
  entryFor_alias (id' := "dict_keyiterator.__iter__") (by kernel_rfl) rfl (by decide +kernel) (by kernel_rfl)
theorem slot_cb_iter : Slot "itertools.combinations" "__iter__" "itertools.combinations.__iter__" :=
  .of (owner := "itertools.combinations") (n := "__iter__") (by rw [typeLookup_type, builtinLookup_eq_fast]; kernel_rfl) (by decide +kernel) (by decide +kernel) (by decide +kernel)
    (by first | exact .inl (by decide +kernel) | exact .inr (by decide +kernel)) (by rw [isSubtype_type]; kernel_rfl)
theorem args_cb_iter_1 (a : Value) : argsOk "itertools.combinations.__iter__" ⟨[a], []⟩ := by unfold argsOk; kernel_rfl
section
variable {prog : Program} {w : World} {A : Around} {E : Value → Shared → Prop} {s : Shared}
theorem pyIter_cb {C P : Addr} {st : Nat} {res : Value} {idx : List Nat} {Q : Value → Shared → Prop} (hC : IsCb s.heap C P st res idx) (h : Q (.ref C) s) : wpAny (model prog w) A (pyIter (.ref C)) Q E s := by
  have hT : s.TypeIs (.ref C) "itertools.combinations" := ⟨_, hC, rfl⟩
  refine wpAny_pyIter_slot hT slot_cb_iter (wpAny_call_entry slot_cb_iter hT entry_cb_iter ?_ (args_cb_iter_1 _))
  show wpAny _ _ (ret (.ref C)) _ _ s
  exact wpAny_pure ⟨_, rfl, "itertools.combinations", _, hT, slot_cb_next.lookup, h⟩
theorem call_cb {k : Sk} {l : Addr} {xs : Array Value} {r : Nat} {tk : Tok} {Q : Value → Shared → Prop} (hr : r ≤ 1000) (hx : xs.size ≤ 1000) (hl : IsSr k s.heap l xs)
    (h : ∀ h' C P, IsCb h' C P (if r > xs.size then 2 else 0) .none (List.range r) → IsPl h' P xs.toList → s.heap.objs.size ≤ P → P < C → (∀ c o, s.heap.get? c = some o → h'.get? c = some o) → Q (.ref C) { s with heap := h' }) :
    wpAny (model prog w) A (call (.type "itertools.combinations") [.ref l, .int (r : Nat) tk]) Q E s :=
  callType_new called_cb (by decide) (typeCall_cb_2 _ _) (newCall_cb_2 _ _) (fun obj => F.args_object_init_3 obj _ _) entry_cb_new
    (cb_meets k l xs r tk hr hx) ⟨hl, fun h' C P h1 h2 h3 h4 h5 h6 => ⟨h6, h h' C P h1 h2 h3 h4 h5⟩⟩
theorem cpy_item {C P : Addr} {st : Nat} {res : Value} {idx u : List Nat} {its : List Value} {Q : Option Value → Shared → Prop} (hC : IsCb s.heap C P st res idx) (hP : IsPl s.heap P its) (hne : C ≠ P) (hu : u.length ≤ sizeLine) (hs : (st = 0 ∧ u = idx) ∨ (st = 1 ∧ nextLot its.length idx = some u))
    (hQ : ∀ h', IsCb h' C P 1 (.ref s.heap.objs.size) u → IsPl h' P its → IsPl h' s.heap.objs.size (itemsAt .none its u) → h'.objs.size = s.heap.objs.size + 1 → (∀ c o, c ≠ C → s.heap.get? c = some o → h'.get? c = some o) → Q (some (.ref s.heap.objs.size)) { s with heap := h' }) :
    wpAny (model prog w) A (pyNext (.ref C)) Q E s := by
  have hT : s.TypeIs (.ref C) "itertools.combinations" := ⟨_, hC, rfl⟩
  unfold pyNext
  refine wpAny_bind (wpAny_attempt (wpAny_callSpecial?_slot (name := Str.ofString "__next__") hT slot_cb_next (wpAny_call_entry slot_cb_next hT entry_cb_next ?_ (args_cb_next_1 _))))
  rcases hs with ⟨rfl, rfl⟩ | ⟨rfl, hn⟩
  · exact cb_first hC hP hne hu fun h' a1 a2 a3 a4 a5 => wpAny_pure (hQ h' a1 a2 a3 a4 a5)
  · exact cb_step hC hP hne hu hn fun h' a1 a2 a3 a4 a5 => wpAny_pure (hQ h' a1 a2 a3 a4 a5)
theorem cpy_end {C P : Addr} {st : Nat} {res : Value} {idx : List Nat} {its : List Value} {Q : Option Value → Shared → Prop} (hh : A.handled = none) (hC : IsCb s.heap C P st res idx) (hP : IsPl s.heap P its) (hst : st = 2 ∨ (st = 1 ∧ nextLot its.length idx = none))
    (hQ : ∀ h', (∀ c o, c ≠ C → s.heap.get? c = some o → h'.get? c = some o) → Q none { s with heap := h' }) : wpAny (model prog w) A (pyNext (.ref C)) Q E s := by
  have hT : s.TypeIs (.ref C) "itertools.combinations" := ⟨_, hC, rfl⟩
  unfold pyNext
  refine wpAny_bind (wpAny_attempt (wpAny_callSpecial?_slot (name := Str.ofString "__next__") hT slot_cb_next
    (wpAny_call_entry slot_cb_next hT entry_cb_next (cb_end hh hC hP hst fun h' e hk he => ?_) (args_cb_next_1 _))))
  obtain ⟨o, ho, hc⟩ := he
  refine wpAny_bind (wpAny_isInstance (T := "StopIteration") (b := true) ⟨o, ho, hc⟩ isSubtype_stop ?_)
  exact wpAny_pure (hQ _ hk)
end
/-- how far the walk has come: i lots are handed out -/
def CbAt (h : Heap) (C P : Addr) (r : Nat) (its : List Value) (i : Nat) : Prop := ∃ st res idx, IsCb h C P st res idx ∧ IsPl h P its ∧
  ((i = 0 ∧ ((st = 0 ∧ r ≤ its.length ∧ idx = List.range r) ∨ (st = 2 ∧ its.length < r))) ∨ ∃ j, i = j + 1 ∧ st = 1 ∧ (lots r 0 its.length)[j]? = some idx)
def ItC (vs : List V) (r : Nat) : It :=
  ⟨fun i H => i < (lots r 0 vs.length).length,
    fun i H v H' => ∃ T u, v = .ref T ∧ H T = none ∧ H' = upd H T (.tup (itemsAt .non vs u)) ∧ (lots r 0 vs.length)[i]? = some u,
    fun i H => i = (lots r 0 vs.length).length⟩
theorem itemsAt_rel {vs : List V} {us : List Value} (h : Vals vs us) : ∀ {u : List Nat}, (∀ x ∈ u, x < vs.length) → Vals (itemsAt .non vs u) (itemsAt .none us u)
  | [], _ => .nil
  | i :: u, hu => by
    have ih := itemsAt_rel h (u := u) fun x hx => hu x (List.mem_cons_of_mem _ hx)
    have hi := hu i List.mem_cons_self
    obtain ⟨w, hw, rw'⟩ := h.get (List.getElem?_eq_getElem hi)
    unfold itemsAt at ih ⊢
    rw [List.map_cons, List.map_cons]
    refine .cons ?_ ih
    have e1 : vs.getD i .non = vs[i] := by rw [List.getD_eq_getElem?_getD, List.getElem?_eq_getElem hi]; rfl
    have e2 : us.getD i .none = w := by rw [List.getD_eq_getElem?_getD, hw]; rfl
    rw [e1, e2]
    exact rw'
theorem turn_cb {P : Program} {w : World} {K : PySem.W.Frag} {x : PySem.Str} {np : Pos} {vs : List V} {r : Nat} {C Pl : Addr} {its : List Value} (hv : Vals vs its) (hr : r ≤ 1000) (hne : C ≠ Pl) :
    Turn P w K (.Name x np) (ItC vs r) [C, Pl] C (fun i h => CbAt h C Pl r its i) where
  mem := List.mem_cons_self
  obj := fun i h st c hc => by
    obtain ⟨st, res, idx, hC, hP, _⟩ := st
    simp only [List.mem_cons, List.not_mem_nil, or_false] at hc
    rcases hc with q | q
    · rw [q]; exact ⟨_, hC, fun v q => nomatch q⟩
    · rw [q]; exact ⟨_, hP, fun v q => nomatch q⟩
  keep := fun i h h' st k => by
    obtain ⟨st, res, idx, hC, hP, q⟩ := st
    exact ⟨st, res, idx, k C (by simp) _ hC, k Pl (by simp) _ hP, q⟩
  item := by
    intro X hP hw hK hc i pins s σ H E IV hf st hg
    subst hP hw hK
    obtain ⟨st, res, idx, hC, hP, q⟩ := st
    have l : vs.length = its.length := hv.length
    have hg' : i < (lots r 0 its.length).length := by rw [← l]; exact hg
    have hu := List.getElem?_eq_getElem hg'
    generalize (lots r 0 its.length)[i] = u at hu
    have um := List.mem_of_getElem? hu
    have ul := lots_len _ _ _ _ um
    have hs : (st = 0 ∧ u = idx) ∨ (st = 1 ∧ nextLot its.length idx = some u) := by
      rcases q with ⟨rfl, q⟩ | ⟨j, rfl, rfl, q⟩
      · rcases q with ⟨rfl, hle, rfl⟩ | ⟨rfl, hlt⟩
        · refine .inl ⟨rfl, ?_⟩
          have := lots_head r 0 its.length hle
          rw [hu] at this
          have e := Option.some.inj this
          rw [e]
          simp
        · rw [lots_nil _ _ _ hlt] at hu; simp at hu
      · refine .inr ⟨rfl, ?_⟩
        have := lots_next _ _ _ _ _ q
        rw [Nat.zero_add] at this
        rw [this, hu]
    have hCl : C < s.heap.objs.size := Heap.lt_size hC
    have hPl : Pl < s.heap.objs.size := Heap.lt_size hP
    refine cpy_item hC hP hne (by rw [ul]; have := sizeLine_eq; omega) hs fun h' a1 a2 a3 a4 a5 => ⟨_, rfl, ?_⟩
    refine wpAny_pure ?_
    have hrel : Vals (itemsAt .non vs u) (itemsAt .none its u) := itemsAt_rel hv fun x hx => by have := (lots_lt _ _ _ _ um x hx).2; omega
    have new : ObjOk X.prog X.w (upd H s.heap.objs.size (.tup (itemsAt .non vs u))) h' s.heap.objs.size (.tup (itemsAt .non vs u)) :=
      ⟨by show (itemsAt V.non vs u).length ≤ sizeLine; unfold itemsAt; rw [List.length_map, ul]; have := sizeLine_eq; omega, _, hrel, ⟨_, a3, rfl, _, rfl⟩⟩
    have I1 : Inv X pins σ (upd H s.heap.objs.size (.tup (itemsAt .non vs u))) { s with heap := h' } :=
      IV.turnedNew (t' := s.toks) (ch := [C, Pl]) (fun c o hb q => a5 c o (fun e => hb (by rw [e]; simp)) q) hf (Nat.le_refl _) new
    refine ⟨.ref s.heap.objs.size, _, I1, rfl, ⟨_, u, rfl, IV.hok.fresh (Nat.le_refl _), rfl, by rw [l]; exact hu⟩, ⟨1, _, u, a1, a2, .inr ⟨i, rfl, rfl, hu⟩⟩, fun c hcm => ?_⟩
    have hlt : c < s.heap.objs.size := by
      simp only [List.mem_cons, List.not_mem_nil, or_false] at hcm
      rcases hcm with q | q
      · rw [q]; exact hCl
      · rw [q]; exact hPl
    rw [upd_ne (Nat.ne_of_lt hlt)]
    exact (hf c hcm).1
  done := by
    intro X hP hw hK hc i pins s σ H E IV hf st hg
    subst hP hw hK
    obtain ⟨st, res, idx, hC, hP, q⟩ := st
    have l : vs.length = its.length := hv.length
    have hg' : i = (lots r 0 its.length).length := by rw [← l]; exact hg
    have hs : st = 2 ∨ (st = 1 ∧ nextLot its.length idx = none) := by
      rcases q with ⟨rfl, q⟩ | ⟨j, rfl, rfl, q⟩
      · rcases q with ⟨rfl, hle, rfl⟩ | ⟨rfl, hlt⟩
        · have := lots_head r 0 its.length hle
          rw [List.getElem?_eq_none (by omega)] at this
          cases this
        · exact .inl rfl
      · refine .inr ⟨rfl, ?_⟩
        have := lots_next _ _ _ _ _ q
        rw [Nat.zero_add] at this
        rw [this, List.getElem?_eq_none (by omega)]
    exact cpy_end (IV.ok.hd hc) hC hP hs fun h' hk => ⟨rfl, IV.turnedL (t' := s.toks) (ch := [C, Pl]) (fun c o hb q => hk c o (fun e => hb (by rw [e]; simp)) q) hf⟩
  self := fun A i s Q E st h => by
    obtain ⟨st, res, idx, hC, hP, q⟩ := st
    exact pyIter_cb hC h
def iCb (K : PySem.W.Frag) (ta : L2.TA) : L2.TI := fun σ H R => ta σ H fun vs H1 => ∃ k l r xs, vs = [.ref l, .int (r : Nat)] ∧ Sq k K H1 l xs ∧ r ≤ 1000 ∧ xs.length ≤ 1000 ∧ R (ItC xs r) H1
theorem pi_cb {X : Cx} {e1 e2 : Expr} {ta : L2.TA} {p pos np : Pos} {x : PySem.Str} {y : PySem.Str} (hg : Gl X y) (hm : X.mg y = some (.type "itertools.combinations")) (ha : PA X [e1, e2] ta) (hdb : (y == ("__debug__" : PySem.Str)) = false := by decide)
    (hs : starEach [e1, e2] X.env = (false, eval e1 X.env) :: starEach [e2] X.env := by rfl) (hpl : (backTo pos (starEach [e2] X.env)).any (·.1) = false := by rfl) :
    PI X (.Name x np) (.Call (.Name y p) [e1, e2] [] pos) (iCb X.K ta) := by
  refine ⟨fun pins s σ H R IV h => ?_⟩
  refine Call_ (ld_glob IV hg hm (PyProof.Rows.callWith_type1 (thn (ha.run pos pins s σ H _ IV h) fun us s1 ⟨vs, H1, I1, r1, q1⟩ => ?_) hs hpl) hdb)
  obtain ⟨k, l, r, xs, ex, q1, hr, hx, q⟩ := q1
  subst ex
  cases r1 with
  | cons rl rr =>
    cases rl
    cases rr with
    | cons ri rr =>
      cases rr
      obtain ⟨tk, rfl⟩ := ri
      obtain ⟨its, rv, p1, _⟩ := inv_sr I1 q1
      have hxl : its.toArray.size ≤ 1000 := by rw [List.size_toArray, ← rv.length]; exact hx
      refine call_cb hr hxl p1 fun h' C P hC hP hle hlt hk => pyIter_cb hC ?_
      have fp : ∀ c ∈ [C, P], FpOk X pins H1 c := fun c hcm => by
        have hle : s1.heap.objs.size ≤ c := by
          simp only [List.mem_cons, List.not_mem_nil, or_false] at hcm
          rcases hcm with q | q
          · rw [q]; exact Nat.le_trans hle (Nat.le_of_lt hlt)
          · rw [q]; exact hle
        exact I1.fpOk hle (I1.hok.fresh hle)
      have I2 : Inv X pins σ H1 { s1 with heap := h' } := I1.kept (t' := s1.toks) hk
      refine ⟨C, [C, P], _, _, H1, rfl, I2, turn_cb rv hr (Nat.ne_of_gt hlt), ⟨_, _, _, hC, hP, .inl ⟨rfl, ?_⟩⟩, fp, q⟩
      rw [List.size_toArray]
      by_cases z : r > its.length
      · rw [if_pos z]; exact .inr ⟨rfl, z⟩
      · rw [if_neg z]; exact .inl ⟨rfl, by omega, rfl⟩
theorem itC_items {K : PySem.W.Frag} {F : Hp} {vs : List V} {ds : List D} {r : Nat} (rl : RepL K F vs ds) : ItOk K (ItC vs r) F ((combs r ds).map .tup) := by
  have l := rl.length
  have e : (combs r ds).map D.tup = (lots r 0 vs.length).map fun u => D.tup (itemsAt .non ds u) := by
    rw [combs_eq .non r ds, l, List.map_map]; rfl
  rw [e]
  have el : ((lots r 0 vs.length).map fun u => D.tup (itemsAt .non ds u)).length = (lots r 0 vs.length).length := by simp
  refine ⟨fun i F' S' H' hi sm ok => by rw [el] at hi; exact hi, fun F' S' H' sm ok => el, fun i F' S' H' x H'' hi sm ok y => ?_⟩
  obtain ⟨T, u, rfl, hT, rfl, hu⟩ := y
  have um := List.mem_of_getElem? hu
  have rr : ∀ {u : List Nat}, (∀ x ∈ u, x < vs.length) → RepL K F' (itemsAt .non vs u) (itemsAt .non ds u) := by
    intro u
    induction u with
    | nil => intro _; exact .nil
    | cons i u ih =>
      intro h
      have hi := h i List.mem_cons_self
      obtain ⟨d, e1, e2⟩ := rl.get i (List.getElem?_eq_getElem hi)
      have q1 : vs.getD i .non = vs[i] := by rw [List.getD_eq_getElem?_getD, List.getElem?_eq_getElem hi]; rfl
      have q2 : ds.getD i .non = d := by rw [List.getD_eq_getElem?_getD, e1]; rfl
      have ih' := ih fun x hx => h x (List.mem_cons_of_mem _ hx)
      unfold itemsAt at ih' ⊢
      rw [List.map_cons, List.map_cons, q1, q2]
      exact .cons (e2.mono sm) ih'
  obtain ⟨g, r'⟩ := rep_new ok hT (rr fun x hx => by have := (lots_lt _ _ _ _ um x hx).2; omega)
  refine ⟨_, _, ?_, g, r'⟩
  rw [List.getElem?_map, hu]
  rfl
theorem comb1 {X : Cx} {σ : L2.St} {H : Hp} {R : It → Hp → Prop} {r : TA Hp} (h : liftI X.K (iComb r) σ H R) : iCb X.K (liftA X.K 2 r) σ H R := by
  obtain ⟨B, F, S, env, Q, st, t, k⟩ := h
  refine ⟨B, F, S, env, _, st, t, fun ds S1 F1 H1 vs g1 r1 l q1 => ?_⟩
  unfold combL at q1
  split at q1
  · obtain ⟨v, u, rfl, e, f⟩ := rl2 r1
    have f' := rep_int f
    subst f'
    obtain ⟨h0, q2⟩ := q1
    obtain ⟨sk, a, vs, ds', rfl, q, rl, t'⟩ := items_rep e q2
    rename_i x ri
    refine ⟨sk, a, ri.toNat, vs, ?_, q.mono g1.ok.fh, t'.2.1, by rw [rl.length]; exact t'.1, k _ S1 F1 H1 _ g1 (itC_items rl) t'.2.2⟩
    rw [Int.toNat_of_nonneg h0]
  · exact q1.elim
theorem di_comb {X : Cx} {a b : Expr} {Ta Tb : TE Hp} {p pos np : Pos} {x y : PySem.Str} (h : DE X a Ta) (h2 : DE X b Tb) (hm : X.mg y = some (.type "itertools.combinations")) (hg : Gl X y := by rfl) (hdb : (y == ("__debug__" : PySem.Str)) = false := by decide) (hs1 : starEach [a, b] X.env = (false, eval a X.env) :: starEach [b] X.env := by rfl) (hs2 : starEach [b] X.env = [(false, eval b X.env)] := by rfl) (hpl : (backTo pos (starEach [b] X.env)).any (·.1) = false := by rfl) :
    DI X (.Name x np) (.Call (.Name y p) [a, b] [] pos) (iComb (aCons Ta (aCons Tb aNil))) :=
  pi_weak (pi_cb hg hm (da_cons h (da1 h2 hs2) hs1) hdb hs1 hpl) fun σ H R h => comb1 h
end DL

end
section
set_option linter.all false
set_option maxRecDepth 100000
set_option autoImplicit false
/-! The data layer: a dict that is shared and changed (a law's deck): {'..': list of ints, '..': int, ..}. -/
namespace DL
open PySem L2 PyProof.Rows
/-! readings -/
def ekI (i : Nat) (key : PySem.Str) : TE Hp := fun env s Q => match env[i]? with
  | some (.val (.obj a)) => ∃ kvs n, s a = some (.dK kvs) ∧ valV kvs (.inr key) = some (.int n) ∧ Q (.int n) s
  | _ => False
def skPut (i : Nat) (key : PySem.Str) (T : TE Hp) : TS Hp := fun K env s => T env s fun d s1 => match env[i]? with
  | some (.val (.obj a)) => ∃ kvs n, d = .int n ∧ s1 a = some (.dK kvs) ∧ kvs.length < line ∧ K.nx env (upd s1 a (.dK (putK kvs (.inr key) (.int n))))
  | _ => False
def tkNe (i : Nat) (key : PySem.Str) : TT Hp := fun env s Q => match env[i]? with
  | some (.val (.obj a)) => ∃ kvs L, ∃ ns : List Int, s a = some (.dK kvs) ∧ valV kvs (.inr key) = some (.ref L) ∧ s L = some (.lst (ns.map .int)) ∧ Q (!ns.isEmpty) s
  | _ => False
def skPop (j i : Nat) (key : PySem.Str) : TS Hp := fun K env s => match env[i]? with
  | some (.val (.obj a)) => ∃ kvs L, ∃ ns : List Int, ∃ c : Int, s a = some (.dK kvs) ∧ valV kvs (.inr key) = some (.ref L) ∧ s L = some (.lst ((ns ++ [c]).map .int)) ∧ K.nx (env.set j (.val (.int c))) (upd s L (.lst (ns.map .int)))
  | _ => False
def skApp (i : Nat) (key : PySem.Str) (T : TE Hp) : TS Hp := fun K env s => match env[i]? with
  | some (.val (.obj a)) => ∃ kvs L, ∃ ns : List Int, s a = some (.dK kvs) ∧ valV kvs (.inr key) = some (.ref L) ∧ s L = some (.lst (ns.map .int)) ∧ T env s fun d s1 => ∃ n, ∃ ns' : List Int, d = .int n ∧ s1 L = some (.lst (ns'.map .int)) ∧ ns'.length < line ∧ K.nx env (upd s1 L (.lst ((ns' ++ [n]).map .int)))
  | _ => False
def ekDeck (k1 k2 k3 : PySem.Str) (T1 T2 T3 : TE Hp) : TE Hp := fun env s Q => T1 env s fun d s1 => T2 env s1 fun x s2 => T3 env s2 fun y s3 => ∃ ns : List Int, ∃ m t : Int, d = .lst (ns.map .int) ∧ x = .int m ∧ y = .int t ∧
  ∀ a L, a ≠ L → s3 a = none → s3 L = none → Q (.obj a) (upd (upd s3 L (.lst (ns.map .int))) a (.dK [(.inr k1, .ref L), (.inr k2, .int m), (.inr k3, .int t)]))

/-- a shared object is written -/
theorem Go.sh {F S H : Hp} (ok : HOK F S H) {L : Addr} {o : HO} (h : S L = some o) (o' : HO) : Go F S H F (upd S L o') (upd H L o') := by
  have hL : H L ≠ none := by rw [ok.sh _ _ h]; exact fun z => nomatch z
  have nF : ∀ a, F a ≠ none → a ≠ L := fun a ha e => by
    have := ok.ap a ha
    rw [e, h] at this
    cases this
  refine ⟨Same.refl F, ⟨fun a u ha => ?_, fun a u ha => ?_, fun a ha => ?_⟩, fun a u ha hs => ?_, fun a ha => ?_, fun a ha => .inl ha, fun a ha => .inl ?_⟩
  · rw [upd_ne (nF a (by rw [ha]; exact fun z => nomatch z))]; exact ok.fh _ _ ha
  · by_cases e : a = L
    · subst e; rw [upd_same] at ha ⊢; exact ha
    · rw [upd_ne e] at ha ⊢; exact ok.sh _ _ ha
  · rw [upd_ne (nF a ha)]; exact ok.ap a ha
  · have e : a ≠ L := fun e => by rw [e, h] at hs; cases hs
    rw [upd_ne e]; exact ha
  · by_cases e : a = L
    · subst e; rw [upd_same]; exact fun z => nomatch z
    · rw [upd_ne e]; exact ha
  · by_cases e : a = L
    · subst e; rw [h]; exact fun z => nomatch z
    · rw [upd_ne e] at ha; exact ha
section
variable {X : Cx} {e a b c : Expr} {es : List Expr} {T Ta Tb Tc : TE Hp} {pos p p2 apos cpos pos' : Pos} {i j jj : Nat} {x y key : PySem.Str}
theorem StR.objAt {K : PySem.W.Frag} {B F S H : Hp} {env : Env} {σ : L2.St} {i : Nat} {a : Nat} (st : StR K B F S env σ H) (e : env[i]? = some (.val (.obj a))) : σ[i]? = some (some (.ref a)) := by
  obtain ⟨v, h1, h2⟩ := st.val e
  cases h2
  exact h1
theorem de_kI (hu : X.A.units + 64 < cLine) (hN : X.N[i]? = some x := by rfl) (hv : Vis X.env.scope x := by first | exact Or.inl rfl | exact Or.inr (Or.inl rfl) | exact Or.inr (Or.inr rfl)) (hd : (x == ("__debug__" : PySem.Str)) = false := by decide)
    (hcd : (x == ("__classdict__" : PySem.Str)) = false := by decide) : DE X (.Subscript (.Name x p) (.Constant (.str key) jj p2) pos) (ekI i key) :=
  pe_weak (pe_dget (by omega) (pe_var hN hv hd hcd) pe_str (fun _ _ => rfl)) fun σ H Qv ⟨B, F, S, env, Q, st, t, k⟩ => by
  unfold ekI at t
  split at t
  · rename_i a ei
    obtain ⟨kvs, n, h1, h2, h3⟩ := t
    exact ⟨_, st.objAt ei, a, .int n, rfl, .inl ⟨kvs, .inr key, .of (st.ok.sh _ _ h1), rfl, h2.symm⟩, k _ _ _ _ _ (Go.refl st.ok) (.int n) h3⟩
  · exact t.elim
theorem ds_kPut (hu : X.A.units + 64 < cLine) (he : DE X e T) (hN : X.N[i]? = some x := by rfl) (hv : Vis X.env.scope x := by first | exact Or.inl rfl | exact Or.inr (Or.inl rfl) | exact Or.inr (Or.inr rfl)) (hd : (x == ("__debug__" : PySem.Str)) = false := by decide)
    (hcd : (x == ("__classdict__" : PySem.Str)) = false := by decide) (hs : swapsWith e (some (.Subscript (.Name x p) (.Constant (.str key) jj p2) pos')) pos.line X.env = pure false := by rfl) : DS X (.Assign [.Subscript (.Name x p) (.Constant (.str key) jj p2) pos'] e pos) (skPut i key T) :=
  ps_weak (ps_dput (by omega) (pe_var hN hv hd hcd) pe_str he hs) fun D σ H ⟨F0, S0, B, F, S, env, KD, g, st, t, k⟩ => by
  refine ⟨B, F, S, env, _, st, t, fun d S1 F1 H1 v g1 r1 q1 => ?_⟩
  have st1 := st.go g1
  split at q1
  · rename_i a ei
    obtain ⟨kvs, n, rfl, h1, h2, h3⟩ := q1
    cases r1
    have g2 := Go.sh g1.ok h1 (.dK (putK kvs (.inr key) (.int n)))
    exact ⟨_, st1.objAt ei, a, _, rfl, .inl ⟨kvs, .inr key, g1.ok.sh _ _ h1, rfl, h2, rfl⟩, k.nx _ _ _ _ _ (g1.trans g2).ff (g.trans (g1.trans g2)) (st1.go g2) h3⟩
  · exact q1.elim
theorem flats_ints : ∀ ns : List Int, flats deep (ns.map D.int) = true
  | [] => rfl
  | n :: ns => by
    have h := flats_ints ns
    simp only [List.map_cons, flats, h, Bool.and_true]
    rfl
theorem intsOf_ints : ∀ ns : List Int, intsOf (ns.map D.int) = some ns
  | [] => rfl
  | n :: ns => by simp [intsOf, intsOf_ints ns]
theorem toPys_ints (ns : List Int) : toPys (ns.map D.int) = ns.map .int := by
  rw [toPys_map, List.map_map]; rfl
theorem dt_kNe (hu : X.A.units + 64 < cLine) (hN : X.N[i]? = some x := by rfl) (hv : Vis X.env.scope x := by first | exact Or.inl rfl | exact Or.inr (Or.inl rfl) | exact Or.inr (Or.inr rfl)) (hd : (x == ("__debug__" : PySem.Str)) = false := by decide)
    (hcd : (x == ("__classdict__" : PySem.Str)) = false := by decide) (hm : behindInMarks .NotEq (.List [] pos') = false := by first | exact nomark _ | rfl) : DT X (.Compare (.Subscript (.Name x p) (.Constant (.str key) jj p2) apos) [.NotEq] [.List [] pos'] pos) (tkNe i key) :=
  pt_weak (pt_cmpR (op_neD hu) (pe_dget (by omega) (pe_var hN hv hd hcd) pe_str (fun _ _ => rfl)) (pe_lst pa_nil) hm) fun σ H Qb ⟨B, F, S, env, Q, st, t, k⟩ => by
  unfold tkNe at t
  split at t
  · rename_i a ei
    obtain ⟨kvs, L, ns, h1, h2, h3, h4⟩ := t
    refine ⟨_, st.objAt ei, a, .ref L, rfl, .inl ⟨kvs, .inr key, .of (st.ok.sh _ _ h1), rfl, h2.symm⟩, ?_⟩
    refine ⟨by show 0 ≤ sizeLine; exact Nat.zero_le _, fun q hq => ?_⟩
    have g1 := Go.newH st.ok hq (.lst [])
    have hL : (upd H q (.lst [])) L = some (.lst (ns.map .int)) := g1.ok.sh _ _ h3
    have rl : RepL X.K F (ns.map V.int) (ns.map D.int) := RepL.ints ns
    refine ⟨.list (toPys (ns.map D.int)), .list [], .lst (.of hL) (dps_mono g1.ok.fh (rep_dps deep (flats_ints ns) rl)), .lst (.of upd_same) .nil, flats_shaped (flats_ints ns), by decide, ?_⟩
    have e : (!PyData.eqv (.list (toPys (ns.map D.int))) (.list [])) = !ns.isEmpty := by
      cases ns with
      | nil => rfl
      | cons n ns => simp [toPys, toPy, PyData.eqv, PyData.eqvAll]
    rw [e]
    exact ⟨_, rfl, k _ _ _ _ g1 h4⟩
  · exact t.elim
theorem ds_kPop (hu : X.A.units + 64 < cLine) (hN : X.N.Nodup) (hj : X.N[j]? = some y := by rfl) (hy : Loc X.env.scope y := by first | exact Or.inl rfl | exact Or.inr rfl) (hi : X.N[i]? = some x := by rfl) (hv : Vis X.env.scope x := by first | exact Or.inl rfl | exact Or.inr (Or.inl rfl) | exact Or.inr (Or.inr rfl)) (hd : (x == ("__debug__" : PySem.Str)) = false := by decide)
    (hcd : (x == ("__classdict__" : PySem.Str)) = false := by decide) (hbase : attributeBase (.Subscript (.Name x p) (.Constant (.str key) jj p2) pos') "pop" X.env (eval (.Subscript (.Name x p) (.Constant (.str key) jj p2) pos') X.env) = eval (.Subscript (.Name x p) (.Constant (.str key) jj p2) pos') X.env := by rfl)
    (hline : (apos.endLine == cpos.line) = true := by rfl) {py : Pos} (hs : swapsWith (.Call (.Attribute (.Subscript (.Name x p) (.Constant (.str key) jj p2) pos') "pop" apos) [] [] cpos) (some (.Name y py)) pos.line X.env = pure false := by rfl) (hf : X.fn y = true ∨ X.env.scope.names.lookup y = some .local := by first | exact .inl rfl | exact .inr rfl | assumption) :
    DS X (.Assign [.Name y py] (.Call (.Attribute (.Subscript (.Name x p) (.Constant (.str key) jj p2) pos') "pop" apos) [] [] cpos) pos) (skPop j i key) :=
  ps_weak (ps_set hN hj hy (pe_bm0 PySem.F.plainAttrs_list PySem.F.slot_list_pop PySem.F.type_list_pop mt_pop (pe_dget (by omega) (pe_var hi hv hd hcd) pe_str (fun _ _ => rfl)) hbase hline) hs hf) fun D σ H ⟨F0, S0, B, F, S, env, KD, g, st, t, k⟩ => by
  unfold skPop at t
  split at t
  · rename_i a ei
    obtain ⟨kvs, L, ns, c, h1, h2, h3, h4⟩ := t
    refine ⟨_, st.objAt ei, a, .ref L, rfl, .inl ⟨kvs, .inr key, .of (st.ok.sh _ _ h1), rfl, h2.symm⟩, .inl ⟨rfl, _, .of (st.ok.sh _ _ h3)⟩, ?_⟩
    refine ⟨L, _, .int c, rfl, rfl, st.ok.sh _ _ h3, by simp, ?_⟩
    have e : ((ns ++ [c]).map V.int).dropLast = ns.map V.int := by simp
    rw [e]
    have g2 := Go.sh st.ok h3 (.lst (ns.map .int))
    exact k.nx _ _ _ _ _ g2.ff (g.trans g2) ((st.go g2).set j (.int c)) h4
  · exact t.elim
theorem ds_kApp (hu : X.A.units + 64 < cLine) (he : DE X e T) (hi : X.N[i]? = some x := by rfl) (hv : Vis X.env.scope x := by first | exact Or.inl rfl | exact Or.inr (Or.inl rfl) | exact Or.inr (Or.inr rfl)) (hd : (x == ("__debug__" : PySem.Str)) = false := by decide)
    (hcd : (x == ("__classdict__" : PySem.Str)) = false := by decide) (hbase : attributeBase (.Subscript (.Name x p) (.Constant (.str key) jj p2) pos') "append" X.env (eval (.Subscript (.Name x p) (.Constant (.str key) jj p2) pos') X.env) = eval (.Subscript (.Name x p) (.Constant (.str key) jj p2) pos') X.env := by rfl)
    (hfew : ((backTo cpos (starEach [e] X.env)).all (fun x => !x.1) && (backToKw cpos (keywordEach [] X.env)).all (fun x => x.1.isSome) && decide (([e] : List Expr).length + ([] : List Keyword).length + (if ([] : List Keyword).isEmpty then 0 else 1) < 30)) = true := by rfl)
    (hline : (apos.endLine == cpos.line) = true := by rfl) (hs : starEach [e] X.env = (false, eval e X.env) :: starEach [] X.env := by rfl) (hplain : (backTo cpos (starEach [] X.env)).any (·.1) = false := by rfl)
    (hsw : swapsWith (.Call (.Attribute (.Subscript (.Name x p) (.Constant (.str key) jj p2) pos') "append" apos) [e] [] cpos) none pos.line X.env = pure false := by rfl) :
    DS X (.Expr (.Call (.Attribute (.Subscript (.Name x p) (.Constant (.str key) jj p2) pos') "append" apos) [e] [] cpos) pos) (skApp i key T) :=
  ps_weak (ps_expr (pe_bm PySem.F.plainAttrs_list PySem.F.slot_list_append PySem.F.type_list_append mt_append (pe_dget (by omega) (pe_var hi hv hd hcd) pe_str (fun _ _ => rfl)) (pa_cons he pa_nil hs) hbase hfew hline hs hplain) hsw) fun D σ H ⟨F0, S0, B, F, S, env, KD, g, st, t, k⟩ => by
  unfold skApp at t
  split at t
  · rename_i a ei
    obtain ⟨kvs, L, ns, h1, h2, h3, h4⟩ := t
    refine ⟨_, st.objAt ei, a, .ref L, rfl, .inl ⟨kvs, .inr key, .of (st.ok.sh _ _ h1), rfl, h2.symm⟩, .inl ⟨rfl, _, .of (st.ok.sh _ _ h3)⟩, ?_⟩
    refine ⟨B, F, S, env, _, st, h4, fun d S1 F1 H1 v g1 r1 q1 => ?_⟩
    obtain ⟨n, ns', rfl, j1, j2, j3⟩ := q1
    cases r1
    refine ⟨L, _, .int n, rfl, rfl, g1.ok.sh _ _ j1, by rw [List.length_map]; exact j2, ?_⟩
    have e : ns'.map V.int ++ [V.int n] = (ns' ++ [n]).map V.int := by simp
    rw [e]
    have g2 := Go.sh g1.ok j1 (.lst ((ns' ++ [n]).map .int))
    exact k.nx _ _ _ _ _ (g1.trans g2).ff (g.trans (g1.trans g2)) ((st.go g1).go g2) j3
  · exact t.elim
theorem de_kDeck {k1 k2 k3 : PySem.Str} {j1 j2 j3 : Nat} {q1 q2 q3 : Pos} (ha : DF X a Ta) (hb : DE X b Tb) (hc : DE X c Tc) (hn : [k1, k2, k3].Nodup := by decide) : DE X (.Dict [some (.Constant (.str k1) j1 q1), some (.Constant (.str k2) j2 q2), some (.Constant (.str k3) j3 q3)] [a, b, c] pos) (ekDeck k1 k2 k3 Ta Tb Tc) :=
  pe_weak (pe_disp (pps_cons pe_str ha (pps_cons pe_str hb (pps_cons pe_str hc pps_nil))) rfl rfl (fun z => nomatch z) (by show 3 ≤ 15; decide)) fun σ H Qv ⟨B, F, S, env, Q, st, t, k⟩ p hp => by
  have g0 := Go.newH st.ok hp (.dK [])
  have fp0 := st.ok.fh.free hp
  have sp0 := st.ok.sh.free hp
  refine ⟨B, F, S, env, _, st.go g0, t, fun d S1 F1 H1 L o g1 hL fL sL hh r1 t1 => ?_⟩
  refine ⟨B, F1, S1, env, _, (st.go g0).go g1, t1, fun x S2 F2 H2 v g2 r2 t2 => ?_⟩
  refine ⟨B, F2, S2, env, _, ((st.go g0).go g1).go g2, t2, fun y S3 F3 H3 w g3 r3 t3 => ?_⟩
  obtain ⟨ns, m, u, rfl, rfl, rfl, t4⟩ := t3
  cases r2
  cases r3
  obtain ⟨f1, s1, h1⟩ := fresh_go ((g1.trans g2).trans g3) fp0 sp0 upd_same
  obtain ⟨f2, s2, h2⟩ := fresh_go (g2.trans g3) fL sL hh
  have hpL : p ≠ L := fun e => by rw [e, upd_same] at hL; cases hL
  have hHL : H L = none := by rw [upd_ne (Ne.symm hpL)] at hL; exact hL
  have ho : o = .lst (ns.map .int) := by
    cases r1 with
    | lst rl =>
      have e := intsOf_rep (ns := ns) (intsOf_ints ns) rl
      rw [e]
  subst ho
  show H3 p = some (.dK []) ∧ ∃ kvs : List (Key × V), [(V.str k1, V.ref L), (V.str k2, V.int m), (V.str k3, V.int u)] = kvs.map (fun kv => (kV kv.1, kv.2)) ∧ kvs.length ≤ 15 ∧ Qv (.ref p) (upd H3 p (.dK (mergeK [] kvs)))
  refine ⟨h1, [(.inr k1, .ref L), (.inr k2, .int m), (.inr k3, .int u)], rfl, by show 3 ≤ 15; decide, ?_⟩
  have em : mergeK [] [((.inr k1 : Key), V.ref L), (.inr k2, .int m), (.inr k3, .int u)] = [(.inr k1, .ref L), (.inr k2, .int m), (.inr k3, .int u)] := by
    rw [mergeK_new _ _ (fun _ _ => rfl)]
    · rfl
    · show ([k1, k2, k3].map (Sum.inr : PySem.Str → Key)).Nodup
      exact List.pairwise_map.mpr (hn.imp fun h e => h (Sum.inr.inj e))
  rw [em]
  have gg := ((g0.trans g1).trans g2).trans g3
  generalize hod : HO.dK [((.inr k1 : Key), V.ref L), (.inr k2, .int m), (.inr k3, .int u)] = od at t4
  have nF : ∀ a, F3 a ≠ none → a ≠ p ∧ a ≠ L := fun a ha => ⟨fun e => ha (by rw [e]; exact f1), fun e => ha (by rw [e]; exact f2)⟩
  have okk : HOK F3 (upd (upd S3 L (.lst (ns.map .int))) p od) (upd H3 p od) := by
    refine ⟨fun a v ha => ?_, fun a v ha => ?_, fun a ha => ?_⟩
    · rw [upd_ne (nF a (by rw [ha]; exact fun z => nomatch z)).1]; exact gg.ok.fh _ _ ha
    · by_cases e : a = p
      · subst e; rw [upd_same] at ha ⊢; exact ha
      · rw [upd_ne e] at ha ⊢
        by_cases e2 : a = L
        · subst e2; rw [upd_same] at ha; cases ha; exact h2
        · rw [upd_ne e2] at ha; exact gg.ok.sh _ _ ha
    · obtain ⟨n1, n2⟩ := nF a ha
      rw [upd_ne n1, upd_ne n2]; exact gg.ok.ap a ha
  have g4 : Go F S H F3 (upd (upd S3 L (.lst (ns.map .int))) p od) (upd H3 p od) := by
    refine ⟨gg.ff, okk, fun a v ha hs => ?_, fun a ha => ?_, gg.nf, fun a ha => ?_⟩
    · rw [upd_ne (ne_of_none ha hp)]; exact gg.keep _ _ ha hs
    · by_cases e : a = p
      · subst e; rw [upd_same]; exact fun z => nomatch z
      · rw [upd_ne e]; exact gg.dom _ ha
    · by_cases e : a = p
      · subst e; exact .inr hp
      · rw [upd_ne e] at ha
        by_cases e2 : a = L
        · subst e2; exact .inr hHL
        · rw [upd_ne e2] at ha; exact gg.ns a ha
  exact k _ _ _ _ _ g4 (.obj p) (by rw [← hod]; exact t4 p L hpL s1 s2)
end
end DL

end
section
set_option linter.all false
set_option maxRecDepth 100000
set_option autoImplicit false
/-! The data layer: a law's draws. -/
namespace DL
open PySem L2 PyProof.Rows
/-- a deck: its cells, its two numbers -/
def IsDeck (kc km kt : PySem.Str) (s : Hp) (a : Addr) : Prop := ∃ kvs L, ∃ ns : List Int, ∃ m t : Int, s a = some (.dK kvs) ∧ kvs.length ≤ 3 ∧ valV kvs (.inr kc) = some (.ref L) ∧ valV kvs (.inr km) = some (.int m) ∧ valV kvs (.inr kt) = some (.int t) ∧ s L = some (.lst (ns.map .int)) ∧ ns.length ≤ 1000
def drawSpec (kc km kt : PySem.Str) : FS Hp := fun ds s Q ex => match ds with
  | [.obj a, .int n] => IsDeck kc km kt s a ∧ 0 < n ∧ n < 2 ^ 64 ∧ ∀ r s', 0 ≤ r → r < n → IsDeck kc km kt s' a → Q (.int r) s'
  | _ => False
def T_drawG (kc km kt : PySem.Str) (a1 b1 c1 c2 m2 d1 d2 m3 f1 m4 : Int) (ex : D → Hp → Prop) : TS Hp := (sSeq (skPut 0 kt (eBin opAdd (ekI 0 kt) (eC (.int 1)))) (sSeq (sSet 2 (eBin opAdd (ekI 0 km) (eBin opMulI (eC (.int a1)) (ekI 0 kt)))) (sSeq (sIf (tkNe 0 kc) (sSeq (skPop 3 0 kc) (sSeq (sIf (tCmp opGe (eBor 3) (eBin opPow (eC (.int 10)) (eC (.int 18)))) (sSeq (skApp 0 kc (eBin opDiv (eBor 3) (eFn fnMax2 (aCons (eC (.int 2)) (aCons (eBor 1) aNil))))) (sSeq (sRet (eBin opMod (eFn fnInt (aCons (eBor 3) aNil)) (eBor 1))) sNil)) sNil) (sSeq (sSet 2 (eBin opAdd (eBor 2) (eBin opMod (eFn fnInt (aCons (eBor 3) aNil)) (eC (.int b1))))) sNil))) sNil) (sSeq (sSet 2 (eBin opMod (eFn fnInt (aCons (eBin opAdd (eBin opMulI (eBor 2) (eC (.int c1))) (eC (.int c2))) aNil)) (eC (.int m2)))) (sSeq (sSet 2 (eBin opMod (eFn fnInt (aCons (eBin opAdd (eBin opAdd (eBin opMulI (eBor 2) (eBor 2)) (eBin opMulI (eC (.int d1)) (ekI 0 kt))) (eC (.int d2))) aNil)) (eC (.int m3)))) (sSeq (sSet 2 (eBin opMod (eFn fnInt (aCons (eBin opMulI (eBor 2) (eC (.int f1))) aNil)) (eC (.int m4)))) (sSeq (sRet (eBin opMod (eFn fnInt (aCons (eBin opDiv (eBor 2) (eC (.int 64))) aNil)) (eBor 1))) sNil)))))))
theorem fmod_range {x n : Int} (h : 0 < n) : 0 ≤ x.fmod n ∧ x.fmod n < n := ⟨Int.fmod_nonneg_of_pos x h, Int.fmod_lt_of_pos x h⟩
section
variable {kc km kt : PySem.Str} {a1 b1 c1 c2 m2 d1 d2 m3 f1 m4 : Int}
/-- the last four steps -/
theorem draw_tail (hk : a1.natAbs < 2 ^ 64 ∧ b1 ≠ 0 ∧ c1.natAbs < 2 ^ 64 ∧ 0 < m2 ∧ m2 < 2 ^ 60 ∧ d1.natAbs < 2 ^ 64 ∧ 0 < m3 ∧ f1.natAbs < 2 ^ 64 ∧ 0 < m4) {Qn Q : D → Hp → Prop} {s : Hp} {a : Addr} {n fg : Int} {x3 : Sl} (hd : IsDeck kc km kt s a) (hn : 0 < n) (hq : ∀ r s', 0 ≤ r → r < n → IsDeck kc km kt s' a → Q (.int r) s') :
    (sSeq (sSet 2 (eBin opMod (eFn fnInt (aCons (eBin opAdd (eBin opMulI (eBor 2) (eC (.int c1))) (eC (.int c2))) aNil)) (eC (.int m2)))) (sSeq (sSet 2 (eBin opMod (eFn fnInt (aCons (eBin opAdd (eBin opAdd (eBin opMulI (eBor 2) (eBor 2)) (eBin opMulI (eC (.int d1)) (ekI 0 kt))) (eC (.int d2))) aNil)) (eC (.int m3)))) (sSeq (sSet 2 (eBin opMod (eFn fnInt (aCons (eBin opMulI (eBor 2) (eC (.int f1))) aNil)) (eC (.int m4)))) (sSeq (sRet (eBin opMod (eFn fnInt (aCons (eBin opDiv (eBor 2) (eC (.int 64))) aNil)) (eBor 1))) sNil))) : TS Hp)
      { nx := fun _ s1 => Qn .non s1, rt := Q } [.val (.obj a), .val (.int n), .val (.int fg), x3] s := by
  obtain ⟨_, _, h4, h5, h6, h7, h8, h9, h10⟩ := hk
  obtain ⟨kvs, L, ns, m, t, e1, e2, e3, e4, e5, e6, e7⟩ := id hd
  show okMul fg c1 ∧ m2 ≠ 0 ∧ okMul _ _ ∧ ∃ kvs n', s a = some (.dK kvs) ∧ valV kvs (.inr kt) = some (.int n') ∧ okMul d1 n' ∧ m3 ≠ 0 ∧ okMul _ f1 ∧ m4 ≠ 0 ∧ okDiv 64 ∧ n ≠ 0 ∧ Q (.int _) s
  refine ⟨.inr (.inl h4), by omega, .inl ?_, kvs, t, e1, e5, .inl h7, by omega, .inr (.inl h9), by omega, ⟨by decide, by decide⟩, by omega, hq _ _ (fmod_range hn).1 (fmod_range hn).2 hd⟩
  have := fmod_range (x := fg * c1 + c2) h5
  omega
theorem IsDeck.put {s : Hp} {a : Addr} (hd : IsDeck kc km kt s a) (h1 : kc ≠ kt) (h2 : km ≠ kt) (t' : Int) : ∃ kvs, s a = some (.dK kvs) ∧ kvs.length ≤ 3 ∧ IsDeck kc km kt (upd s a (.dK (putK kvs (.inr kt) (.int t')))) a := by
  obtain ⟨kvs, L, ns, m, t, e1, e2, e3, e4, e5, e6, e7⟩ := hd
  have hL : L ≠ a := fun e => by rw [e, e1] at e6; cases e6
  refine ⟨kvs, e1, e2, putK kvs (.inr kt) (.int t'), L, ns, m, t', upd_same, ?_, ?_, ?_, ?_, by rw [upd_ne hL]; exact e6, e7⟩
  · have hk : (kvs.any fun kv => decide (kv.1 = Sum.inr kt)) = true := by rw [valV_any, e5]; rfl
    unfold putK
    rw [if_pos hk, List.length_map]
    exact e2
  · rw [valV_put, if_neg (fun e => h1 (Sum.inr.inj e))]; exact e3
  · rw [valV_put, if_neg (fun e => h2 (Sum.inr.inj e))]; exact e4
  · rw [valV_put, if_pos rfl]
theorem draw_ok (h1 : kc ≠ kt) (h2 : km ≠ kt) (hk : a1.natAbs < 2 ^ 64 ∧ b1 ≠ 0 ∧ c1.natAbs < 2 ^ 64 ∧ 0 < m2 ∧ m2 < 2 ^ 60 ∧ d1.natAbs < 2 ^ 64 ∧ 0 < m3 ∧ f1.natAbs < 2 ^ 64 ∧ 0 < m4) {ds : List D} {s : Hp} {Q ex : D → Hp → Prop} (h : drawSpec kc km kt ds s Q ex) : fDef 4 (T_drawG kc km kt a1 b1 c1 c2 m2 d1 d2 m3 f1 m4) ds s Q ex := by
  unfold drawSpec at h
  split at h
  · rename_i a n
    obtain ⟨hd, hn, hn2, hq⟩ := h
    obtain ⟨kvs0, L0, ns0, m0, t0, z1, z2, z3, z4, z5, z6, z7⟩ := id hd
    obtain ⟨kvs, e1, e2, hd1⟩ := hd.put h1 h2 (t0 + 1)
    have ek : kvs = kvs0 := by rw [z1] at e1; cases e1; rfl
    subst ek
    generalize hs1 : upd s a (.dK (putK kvs (.inr kt) (.int (t0 + 1)))) = s1 at hd1
    show ∃ kvs' n', s a = some (.dK kvs') ∧ valV kvs' (.inr kt) = some (.int n') ∧ ∃ kvs n'', D.int (n' + 1) = D.int n'' ∧ s a = some (.dK kvs) ∧ kvs.length < line ∧ _
    refine ⟨kvs, t0, z1, z5, kvs, t0 + 1, rfl, z1, by show kvs.length < 16777216; omega, ?_⟩
    rw [hs1]
    obtain ⟨kvs, L, ns, m, t, y1, y2, y3, y4, y5, y6, y7⟩ := id hd1
    show ∃ kvs' m', s1 a = some (.dK kvs') ∧ valV kvs' (.inr km) = some (.int m') ∧ ∃ kvs t', s1 a = some (.dK kvs) ∧ valV kvs (.inr kt) = some (.int t') ∧ okMul a1 t' ∧ _
    refine ⟨kvs, m, y1, y4, kvs, t, y1, y5, .inl hk.1, ?_⟩
    show ∃ kvs L, ∃ ns : List Int, s1 a = some (.dK kvs) ∧ valV kvs (.inr kc) = some (.ref L) ∧ s1 L = some (.lst (ns.map .int)) ∧ if (!ns.isEmpty) = true then _ else _
    refine ⟨kvs, L, ns, y1, y3, y6, ?_⟩
    rcases List.eq_nil_or_concat ns with hns | ⟨ns', c, hns⟩
    · subst hns
      exact iteF (draw_tail hk hd1 hn hq)
    · rw [List.concat_eq_append] at hns
      subst hns
      have hne : (!(ns' ++ [c]).isEmpty) = true := by simp
      rw [if_pos hne]
      have hLa : a ≠ L := fun e => by rw [← e, y1] at y6; cases y6
      have hd2 : ∀ (ms : List Int), ms.length ≤ 1000 → IsDeck kc km kt (upd s1 L (.lst (ms.map .int))) a := fun ms hms => ⟨kvs, L, ms, m, t, by rw [upd_ne hLa]; exact y1, y2, y3, y4, y5, upd_same, hms⟩
      rw [List.length_append, List.length_singleton] at y7
      show ∃ kvs L, ∃ ns : List Int, ∃ c : Int, s1 a = some (.dK kvs) ∧ valV kvs (.inr kc) = some (.ref L) ∧ s1 L = some (.lst ((ns ++ [c]).map .int)) ∧ _
      refine ⟨kvs, L, ns', c, y1, y3, y6, ?_⟩
      generalize hs2 : upd s1 L (.lst (ns'.map .int)) = s2
      have hd2' : IsDeck kc km kt s2 a := by rw [← hs2]; exact hd2 ns' (by omega)
      have l2 : s2 L = some (.lst (ns'.map .int)) := by rw [← hs2]; exact upd_same
      have a2 : s2 a = some (.dK kvs) := by rw [← hs2, upd_ne hLa]; exact y1
      show (0 : Int) ≤ 18 ∧ (18 : Int) ≤ 1000000 ∧ (10 : Int).natAbs < 2 ^ 64 ∧ if decide ((10 : Int) ^ (18 : Int).toNat ≤ c) = true then _ else _
      refine ⟨by decide, by decide, by decide, ?_⟩
      by_cases hc : (10 : Int) ^ (18 : Int).toNat ≤ c
      · rw [if_pos (decide_eq_true hc)]
        show ∃ kvs L, ∃ ns : List Int, s2 a = some (.dK kvs) ∧ valV kvs (.inr kc) = some (.ref L) ∧ s2 L = some (.lst (ns.map .int)) ∧ okDiv (if n > 2 then n else 2) ∧ _
        refine ⟨kvs, L, ns', a2, y3, l2, ?_, ?_⟩
        · constructor
          · split <;> omega
          · have : (if n > 2 then n else 2).natAbs < 2 ^ 64 := by split <;> omega
            have ne : (if n > 2 then n else 2).natAbs ≠ 0 := by split <;> omega
            exact Nat.lt_trans ((Nat.log2_lt ne).mpr this) (by decide)
        · show ∃ n', ∃ ns'' : List Int, _ = D.int n' ∧ s2 L = some (.lst (ns''.map .int)) ∧ ns''.length < line ∧ _
          refine ⟨_, ns', rfl, l2, by show ns'.length < 16777216; omega, ?_⟩
          show n ≠ 0 ∧ Q (.int (c.fmod n)) _
          refine ⟨by omega, hq _ _ (fmod_range hn).1 (fmod_range hn).2 ?_⟩
          exact ⟨kvs, L, _, m, t, by rw [upd_ne hLa]; exact a2, y2, y3, y4, y5, upd_same, by simp; omega⟩
      · rw [if_neg (by simpa using hc)]
        show b1 ≠ 0 ∧ _
        exact ⟨hk.2.1, draw_tail hk hd2' hn hq⟩
  · exact h.elim
end
end DL
namespace DL
open PySem L2 PyProof.Rows
def deckSpec (kc km kt : PySem.Str) : FS Hp := fun ds s Q ex => match ds with
  | [.scr xs] => (∃ ns : List Int, xs = ns.map .int) ∧ ∀ a s', IsDeck kc km kt s' a → Q (.obj a) s'
  | _ => False
def cellsA : TE Hp := eRev (eLc (iOf (eSlL (eBor 0) oNone (oSome (eC (.int 63))))) (.nm 2) tYes (eFn fnInt (aCons (eBor 2) aNil)) [2])
def cellsB : TE Hp := eRev (eFn fnList (aCons (eSlL (eBor 0) oNone (oSome (eC (.int 63)))) aNil))
def T_deckG (kc km kt : PySem.Str) (k0 e1 b e2 m : Int) (cells : TE Hp) (ex : D → Hp → Prop) : TS Hp := (sSeq (sSet 1 (eC (.int k0))) (sSeq (sFor (iOf (eSlL (eBor 0) oNone (oSome (eC (.int 63))))) (.nm 2) (sSeq (sSet 1 (eBin opMod (eFn fnInt (aCons (eBin opAdd (eBin opAdd (eBin opMulI (eBor 1) (eC (.int e1))) (eBin opMod (eFn fnInt (aCons (eBor 2) aNil)) (eC (.int b)))) (eC (.int e2))) aNil)) (eC (.int m)))) sNil)) (sSeq (sRet (ekDeck kc km kt cells (eVar 1) (eC (.int 0)))) sNil)))
theorem cut63 (ns : List Int) : cutD (ns.map D.int) none (some 63) = (ns.take 63).map .int := by
  show ((ns.map D.int).drop 0).take (min 63 (ns.map D.int).length - 0) = _
  rw [List.drop_zero, Nat.sub_zero, List.length_map, List.map_take]
  by_cases h : 63 ≤ ns.length
  · rw [Nat.min_eq_left h]
  · rw [Nat.min_eq_right (by omega), List.take_of_length_le (by simp), List.take_of_length_le (by simp; omega)]
/-- the cells are the script's, turned round -/
def CellsOk (cells : TE Hp) : Prop := ∀ (ns : List Int) (mx : Sl) (x2 : Sl) (s : Hp) (Q : D → Hp → Prop), Q (.lst (((ns.take 63).reverse).map .int)) s → cells [.val (.scr (ns.map .int)), mx, x2] s Q
theorem lc_ints (mx : Sl) (xs : List D) {s : Hp} {Q : List D → Hp → Prop} : ∀ (ns : List Int) (acc : List D) (x2 : Sl), acc.length + ns.length < 1000 → Q (acc ++ ns.map .int) s → lcD (.nm 2) tYes (eFn fnInt (aCons (eBor 2) aNil)) [.val (.scr xs), mx, x2] Q (ns.map .int) acc s
  | [], acc, x2, _, h => by simpa [lcD] using h
  | n :: ns, acc, x2, hl, h => by
    rw [List.length_cons] at hl
    show acc.length < line ∧ lcD (.nm 2) tYes (eFn fnInt (aCons (eBor 2) aNil)) [.val (.scr xs), mx, x2] Q (ns.map .int) (acc ++ [.int n]) s
    refine ⟨by show acc.length < 16777216; omega, lc_ints mx xs ns (acc ++ [.int n]) x2 (by rw [List.length_append, List.length_singleton]; omega) ?_⟩
    rw [List.append_assoc]
    exact h
theorem cellsA_ok : CellsOk cellsA := by
  intro ns mx x2 s Q h
  have e := cut63 ns
  show lcD (.nm 2) tYes (eFn fnInt (aCons (eBor 2) aNil)) (wipeE [.val (.scr (ns.map .int)), mx, x2] [2]) (fun acc s2 => Q (.lst acc.reverse) s2) (cutD (ns.map D.int) none (some 63)) [] s
  rw [e]
  refine lc_ints mx _ (ns.take 63) [] .no (by simp; omega) ?_
  rw [List.nil_append, ← List.map_reverse]
  exact h
theorem cellsB_ok : CellsOk cellsB := by
  intro ns mx x2 s Q h
  have e := cut63 ns
  show Q (.lst (cutD (ns.map D.int) none (some 63)).reverse) s
  rw [e, ← List.map_reverse]
  exact h
section
variable {kc km kt : PySem.Str} {k0 e1 b e2 m : Int} {cells : TE Hp}
theorem deck_loop (h : e1.natAbs < 2 ^ 64 ∧ b ≠ 0 ∧ m ≠ 0) {K : KE Hp} {xs : List D} {s : Hp} (hk : ∀ mixed x2, K.nx [.val (.scr xs), .val (.int mixed), x2] s) : ∀ (ns : List Int) (mixed : Int) (x2 : Sl),
    forD (.nm 2) (sSeq (sSet 1 (eBin opMod (eFn fnInt (aCons (eBin opAdd (eBin opAdd (eBin opMulI (eBor 1) (eC (.int e1))) (eBin opMod (eFn fnInt (aCons (eBor 2) aNil)) (eC (.int b)))) (eC (.int e2))) aNil)) (eC (.int m)))) sNil) K (ns.map .int) [.val (.scr xs), .val (.int mixed), x2] s
  | [], mixed, x2 => hk mixed x2
  | n :: ns, mixed, x2 => by
    show okMul mixed e1 ∧ b ≠ 0 ∧ m ≠ 0 ∧ forD _ _ K (ns.map .int) [.val (.scr xs), .val (.int _), .val (.int n)] s
    exact ⟨.inr (.inl h.1), h.2.1, h.2.2, deck_loop h hk ns _ _⟩
theorem deck_ok (hc : CellsOk cells) (h1 : kc ≠ km) (h2 : kc ≠ kt) (h3 : km ≠ kt) (hk : e1.natAbs < 2 ^ 64 ∧ b ≠ 0 ∧ m ≠ 0) {ds : List D} {s : Hp} {Q ex : D → Hp → Prop} (h : deckSpec kc km kt ds s Q ex) : fDef 3 (T_deckG kc km kt k0 e1 b e2 m cells) ds s Q ex := by
  unfold deckSpec at h
  split at h
  · rename_i xs
    obtain ⟨⟨ns, rfl⟩, hq⟩ := h
    have e := cut63 ns
    show forD _ _ _ (cutD (ns.map D.int) none (some 63)) [.val (.scr (ns.map .int)), .val (.int k0), .no] s
    rw [e]
    refine deck_loop hk (fun mixed x2 => ?_) (ns.take 63) k0 .no
    refine hc ns _ _ _ _ ?_
    show ∃ ns' : List Int, ∃ m' t : Int, D.lst _ = D.lst (ns'.map .int) ∧ D.int mixed = .int m' ∧ D.int 0 = .int t ∧ _
    refine ⟨_, mixed, 0, rfl, rfl, rfl, fun a L hne ha hL => hq a _ ?_⟩
    refine ⟨_, L, _, mixed, 0, upd_same, by show 3 ≤ 3; decide, ?_, ?_, ?_, by rw [upd_ne (Ne.symm hne)]; exact upd_same, by simp; omega⟩
    · exact valV_pos rfl
    · rw [valV_neg (fun z => h1 (Sum.inr.inj z))]; exact valV_pos rfl
    · rw [valV_neg (fun z => h2 (Sum.inr.inj z)), valV_neg (fun z => h3 (Sum.inr.inj z))]; exact valV_pos rfl
  · exact h.elim
end
end DL

namespace DL
open PySem L2 PySem.Spec PyProof.Rows
theorem kbn_of {K : PySem.W.Frag} {x qual : PySem.Str} {st : Stmt} {f : Addr} {fd : FuncData} {ps : List PySem.Str} {n : Nat} {ks : List PySem.Str} {perm : List Nat} (F : Fun K x qual st f fd)
    (h : ∀ (kV doc pm : Value) (an : Option Addr) (cdv ct : Value) (us ws : List Value), us.length = n → ws.length = ks.length → bindArgs (PySem.W.fnOf x qual (defArgs st) (defBody st) (defScope st) .none kV doc pm an cdv ct) ⟨us, ks.zip ws⟩ = pure (ps.zip (pick perm (us ++ ws)))) :
    KBn K fd ps n ks (fun us ws => pick perm (us ++ ws)) (fun vs zs => pick perm (vs ++ zs)) := by
  obtain ⟨oc, od, kV, doc, pm, an, cdv, ct, osl, rfl, lk, hcd⟩ := F.ex
  refine ⟨fun s us ws _ l1 l2 => .of_eq (h kV doc pm an cdv ct us ws l1 l2), fun r1 r2 => pick_vals (r1.append r2) perm⟩
end DL

namespace DL
open PySem L2 PySem.Spec PyProof.Rows
theorem fun_at {K : PySem.W.Frag} {h : Heap} {mg : PySem.Str → Option Value} (X : K.In h) (G : h.Ns mainGlobals mg) {x : PySem.Str} {st : Stmt} {f : Addr} {oc : Value} {od an : Option Addr} {osl : Array (Option Value)} {kV doc pm cdv ct : Value} (a : PySem.W.nsIn K mainGlobals x = some (some (.ref f)))
    (l : K.lookup f = some ⟨oc, od, .func (PySem.W.fnOf x x (defArgs st) (defBody st) (defScope st) .none kV doc pm an cdv ct), osl⟩) (c : PySem.W.codeIn K cdv x = true) (k : PySem.W.keepIn K (.ref f) = true) : ∃ (f : Addr) (fd : FuncData), mg x = some (.ref f) ∧ Fun K x x st f fd :=
  ⟨f, _, PySem.W.mg_of X G a, fun_mk l c k⟩
theorem fun_atD {K : PySem.W.Frag} {h : Heap} {mg : PySem.Str → Option Value} (X : K.In h) (G : h.Ns mainGlobals mg) {x : PySem.Str} {st : Stmt} {f T : Addr} {oc tc : Value} {od an td : Option Addr} {osl tsl : Array (Option Value)} {kV doc pm cdv ct : Value} {its : List Value} {n : Nat} {dvs : List V} (hd : dvs ≠ []) (hv : Vals dvs its) (a : PySem.W.nsIn K mainGlobals x = some (some (.ref f)))
    (l : K.lookup f = some ⟨oc, od, .func (PySem.W.fnOf x x (defArgs st) (defBody st) (defScope st) (.ref T) kV doc pm an cdv ct), osl⟩) (c : PySem.W.codeIn K cdv x = true) (k : PySem.W.keepIn K (.ref f) = true) (t : K.lookup T = some ⟨tc, td, .seq its.toArray n, tsl⟩) : ∃ (f : Addr) (fd : FuncData), mg x = some (.ref f) ∧ FunD K x x (defArgs st) (defBody st) (defScope st) dvs [] f fd :=
  ⟨f, _, PySem.W.mg_of X G a, ⟨⟨oc, od, .ref T, kV, doc, pm, an, cdv, ct, osl, rfl, l, c, .inr ⟨hd, T, _, its, n, rfl, t, rfl, hv⟩, .inl rfl⟩, k⟩⟩
/-- the end: the law's def keeps its promise, the promise holds -/
theorem walk_all {l : PySem.W.OpenLaw} {q : Program} {loose : List PySem.Str} {XP : (PySem.Str → Option Value) → Heap → Prop} {YP : World → Heap → Prop} {d : DefRec} {K : Params → PySem.W.Frag} {k : Nat} {f : FS Hp} (hn : l.most = some 63) (hr : Room k callerA) (hdf : d.params.defaults = [])
    (hY : ∀ (w : World) (h : Heap), YP w h → (K w.params).In h)
    (plain : ∀ ns : List Int, ns.length ≤ 63 → f [.scr (ns.map .int)] (fun _ => none) (fun v _ => v = .bl true) (fun _ _ => False))
    (F : ∀ (w : World) (mg : PySem.Str → Option Value) (fa : Addr) (h : Heap), (K w.params).In h → h.Ns mainGlobals mg → mg d.name = some (.ref fa) →
      ∃ fd : FuncData, (∀ (s : Shared) (u : Value), BindsTo s fd ⟨[u], []⟩ [("script", u)]) ∧ ∀ base : Heap, (K w.params).In base → base.Ns mainGlobals mg → FnOk l.prog w (K w.params) mg base CX0 k fa fd ["script"] (spOf (K w.params) 1 f)) :
    PySem.W.WalkO q loose XP YP l.row.toRowW d [] (fun f vs => PySem.call f vs) :=
  L2.walk_of (n := 63) (k := k) (x := "script") (CX := fun _ => CX0) (sp := fun w => spOf (K w.params) 1 f) hn (by decide) hdf hr hY F
    (fun w H a ns hl _ hS => ⟨rfl, H, fun _ => none, [.scr (ns.map .int)], _, fun _ _ => False, ⟨Same.refl H, fun _ _ h => (nomatch h), fun _ _ => rfl⟩, .cons (.scr hS (RepL.ints ns)) .nil, plain ns hl, fun d S' F' H' v g r q => by subst q; cases r; rfl⟩) fun _ _ _ _ _ z => z
end DL

namespace DL
open PySem L2
theorem fn_same {P : Program} {w : World} {K : PySem.W.Frag} {mg : PySem.Str → Option Value} {base : Heap} {CX : CXT} {k : Nat} {x : PySem.Str} {st st' : Stmt} {f : Addr} {fd fd' : FuncData} {ps : List PySem.Str} {sp : Sp} (F : Fun K x x st f fd) (F' : Fun K x x st' f fd') (h : FnOk P w K mg base CX k f fd' ps sp) : FnOk P w K mg base CX k f fd ps sp := by
  obtain ⟨_, _, _, _, _, _, _, _, _, _, l1, _⟩ := F.ex
  obtain ⟨_, _, _, _, _, _, _, _, _, _, l2, _⟩ := F'.ex
  rw [l1] at l2
  have e : fd = fd' := by
    have := Option.some.inj l2
    injection this with _ _ e _
    injection e
  rw [e]
  exact h
end DL

end
section
set_option autoImplicit false
set_option linter.all false
/-! The data layer, plain part 2: sorting, texts of data, dicts of one's own, more. -/
namespace DL
/-! ### sorting -/
def insI (x : Int) : List Int → List Int
  | [] => [x]
  | y :: ys => if x ≤ y then x :: y :: ys else y :: insI x ys
def sortI : List Int → List Int
  | [] => []
  | x :: xs => insI x (sortI xs)
/-- rows of ints by their first unlike items: the one is not above the other -/
def leR : List Int → List Int → Bool
  | [], _ => true
  | _ :: _, [] => false
  | x :: xs, y :: ys => if x = y then leR xs ys else decide (x < y)
def insR (x : List Int) : List (List Int) → List (List Int)
  | [] => [x]
  | y :: ys => if leR x y = true then x :: y :: ys else y :: insR x ys
def sortR : List (List Int) → List (List Int)
  | [] => []
  | x :: xs => insR x (sortR xs)
def rowOf : D → Option (List Int)
  | .tup xs => intsOf xs
  | _ => none
def rowsOf : List D → Option (List (List Int))
  | [] => some []
  | d :: ds => match rowOf d, rowsOf ds with
    | some r, some rs => some (r :: rs)
    | _, _ => none
def rowD (r : List Int) : D := .tup (r.map .int)
/-- fewer than 64 rows of one length, not 0, none below 0 -/
def rowsOk : List (List Int) → Bool
  | [] => true
  | r :: rs => decide (rs.length < 63) && decide (0 < r.length) && (r :: rs).all fun q => decide (q.length = r.length) && q.all fun i => decide (0 ≤ i)
def fnSorted : OpN
  | [.lst xs], k => match intsOf xs with
    | some ns => k (.lst ((sortI ns).map .int))
    | none => match rowsOf xs with
      | some rs => rowsOk rs = true ∧ k (.lst ((sortR rs).map rowD))
      | none => False
  | _, _ => False
def nubR : List (List Int) → List (List Int)
  | [] => []
  | x :: xs => if x ∈ xs then nubR xs else x :: nubR xs
/-- sorted(set(xs)) -/
def fnSortSet : OpN
  | [.lst xs], k => match rowsOf xs with
    | some rs => rowsOk rs = true ∧ k (.lst ((sortR (nubR rs)).map rowD))
    | none => False
  | _, _ => False
/-! ### texts -/
def fnRepr : OpN
  | [x], k => flat deep x = true ∧ (toPy x).showable = true ∧ (toPy x).shown.length ≤ line ∧ k (.str (toPy x).shown)
  | _, _ => False
section
variable {S : Type}
/-! ### lists -/
/-- t[::-1] -/
def eRevT (a : TE S) : TE S := fun env s Q => a env s fun x s1 => match x with
  | .tup xs => Q (.tup xs.reverse) s1
  | _ => False
/-- list(range(..)) -/
def eLstI (it : TI S) : TE S := fun env s Q => it env s fun ds s1 => ds.length ≤ line ∧ Q (.lst ds) s1
/-- xs.append(ys.pop(a)) -/
def sAppPop (i j : Nat) (a : TE S) : TS S := fun K env s => match env[i]?, env[j]? with
  | some (.own (.lst ds)), some (.own (.lst es)) => a env s fun x s1 => match x with
    | .int n => match ixN es.length n with
      | some m => match es[m]? with
        | some d => ds.length < line ∧ es.length ≤ line ∧ K.nx ((env.set j (.own (.lst (es.eraseIdx m)))).set i (.own (.lst (ds ++ [d])))) s1
        | none => False
      | none => False
    | _ => False
  | _, _ => False
/-! ### dicts -/
def keyD : Key → D
  | .inl i => .int i
  | .inr x => .str x
/-- {} -/
def eNewK : TE S := fun _ s Q => Q (.dK []) s
def eNewT : TE S := fun _ s Q => Q (.dT []) s
def putDk : D → D → D → (D → Prop) → Prop
  | .dK kvs, y, z, k => match keyOf y with
    | some q => kvs.length < line ∧ k (.dK (putA kvs q z))
    | none => False
  | .dT kvs, .tup ys, z, k => match keysOf ys with
    | some q => kvs.length < line ∧ k (.dT (putA kvs q z))
    | none => False
  | _, _, _, _ => False
/-- d[k] = v -/
def sDkPut (i : Nat) (ix a : TE S) : TS S := fun K env s => match env[i]? with
  | some (.own o) => a env s fun d s1 => ix env s1 fun n s2 => putDk o n d fun o' => K.nx (env.set i (.own o')) s2
  | _ => False
/-- list(x), also of a dict -/
def fnListA : OpN
  | [.lst xs], k => k (.lst xs)
  | [.tup xs], k => k (.lst xs)
  | [.dK kvs], k => k (.lst (kvs.map fun p => keyD p.1))
  | _, _ => False
end
end DL

end
section
set_option linter.all false
set_option maxRecDepth 100000
set_option autoImplicit false
/-! The data layer: sorted, by ints and by rows of ints. -/
namespace DL
open PySem L2 PySem.Spec PyProof.Rows
theorem insI_perm (x : Int) : ∀ ys : List Int, (insI x ys).Perm (x :: ys)
  | [] => List.Perm.refl _
  | y :: ys => by
    unfold insI
    split
    · exact List.Perm.refl _
    · exact ((insI_perm x ys).cons y).trans (List.Perm.swap x y ys)
theorem sortI_perm : ∀ xs : List Int, (sortI xs).Perm xs
  | [] => List.Perm.refl _
  | x :: xs => (insI_perm x _).trans ((sortI_perm xs).cons x)
theorem insI_srt (x : Int) : ∀ {ys : List Int}, ys.Pairwise (· ≤ ·) → (insI x ys).Pairwise (· ≤ ·)
  | [], _ => List.pairwise_singleton _ _
  | y :: ys, h => by
    unfold insI
    obtain ⟨h1, h2⟩ := List.pairwise_cons.mp h
    split
    · rename_i e
      exact List.pairwise_cons.mpr ⟨fun z hz => by
        rcases List.mem_cons.mp hz with q | q
        · rw [q]; exact e
        · exact Int.le_trans e (h1 z q), h⟩
    · rename_i e
      refine List.pairwise_cons.mpr ⟨fun z hz => ?_, insI_srt x h2⟩
      rcases List.mem_cons.mp ((insI_perm x ys).mem_iff.mp hz) with q | q
      · rw [q]; omega
      · exact h1 z q
theorem sortI_srt : ∀ xs : List Int, (sortI xs).Pairwise (· ≤ ·)
  | [] => .nil
  | x :: xs => insI_srt x (sortI_srt xs)
/-- the same items, both in order: the same list -/
theorem perm_eq {α : Type} {r : α → α → Prop} (an : ∀ x y, r x y → r y x → x = y) : ∀ {l m : List α}, l.Perm m → l.Pairwise r → m.Pairwise r → l = m
  | [], m, h, _, _ => by rw [List.nil_perm.mp h]
  | x :: l, [], h, _, _ => by cases List.perm_nil.mp h
  | x :: l, y :: m, h, h1, h2 => by
    obtain ⟨a1, a2⟩ := List.pairwise_cons.mp h1
    obtain ⟨b1, b2⟩ := List.pairwise_cons.mp h2
    have e : x = y := by
      rcases List.mem_cons.mp (h.mem_iff.mp List.mem_cons_self) with q | q
      · exact q
      · rcases List.mem_cons.mp (h.mem_iff.mpr List.mem_cons_self) with z | z
        · exact z.symm
        · exact an x y (a1 y z) (b1 x q)
    subst e
    rw [perm_eq an ((List.perm_cons x).mp h) a2 b2]
/-! rows -/
abbrev LeR (x y : List Int) : Prop := leR x y = true
theorem leR_anti : ∀ x y : List Int, LeR x y → LeR y x → x = y
  | [], [], _, _ => rfl
  | [], _ :: _, _, h => by simp [LeR, leR] at h
  | _ :: _, [], h, _ => by simp [LeR, leR] at h
  | x :: xs, y :: ys, h1, h2 => by
    simp only [LeR, leR] at h1 h2
    by_cases e : x = y
    · subst e
      rw [if_pos rfl] at h1 h2
      rw [leR_anti xs ys h1 h2]
    · rw [if_neg e] at h1
      rw [if_neg (fun z => e z.symm)] at h2
      have := of_decide_eq_true h1
      have := of_decide_eq_true h2
      omega
theorem leR_total : ∀ x y : List Int, leR x y = false → LeR y x
  | [], _, h => by simp [leR] at h
  | _ :: _, [], _ => rfl
  | x :: xs, y :: ys, h => by
    simp only [LeR, leR] at h ⊢
    by_cases e : x = y
    · subst e
      rw [if_pos rfl] at h ⊢
      exact leR_total xs ys h
    · rw [if_neg e] at h
      rw [if_neg (fun z => e z.symm)]
      have := of_decide_eq_false h
      exact decide_eq_true (by omega)
theorem leR_trans : ∀ x y z : List Int, LeR x y → LeR y z → LeR x z
  | [], _, _, _, _ => rfl
  | _ :: _, [], _, h, _ => by simp [LeR, leR] at h
  | _ :: _, _ :: _, [], _, h => by simp [LeR, leR] at h
  | x :: xs, y :: ys, z :: zs, h1, h2 => by
    simp only [LeR, leR] at h1 h2 ⊢
    by_cases e1 : x = y
    · subst e1
      rw [if_pos rfl] at h1
      by_cases e2 : x = z
      · subst e2
        rw [if_pos rfl] at h2 ⊢
        exact leR_trans xs ys zs h1 h2
      · rw [if_neg e2] at h2 ⊢; exact h2
    · rw [if_neg e1] at h1
      have k1 := of_decide_eq_true h1
      by_cases e2 : y = z
      · subst e2
        rw [if_neg e1]; exact h1
      · rw [if_neg e2] at h2
        have k2 := of_decide_eq_true h2
        rw [if_neg (by omega)]
        exact decide_eq_true (by omega)
theorem insR_perm (x : List Int) : ∀ ys : List (List Int), (insR x ys).Perm (x :: ys)
  | [] => List.Perm.refl _
  | y :: ys => by
    unfold insR
    split
    · exact List.Perm.refl _
    · exact ((insR_perm x ys).cons y).trans (List.Perm.swap x y ys)
theorem sortR_perm : ∀ xs : List (List Int), (sortR xs).Perm xs
  | [] => List.Perm.refl _
  | x :: xs => (insR_perm x _).trans ((sortR_perm xs).cons x)
theorem insR_srt (x : List Int) : ∀ {ys : List (List Int)}, ys.Pairwise LeR → (insR x ys).Pairwise LeR
  | [], _ => List.pairwise_singleton _ _
  | y :: ys, h => by
    unfold insR
    obtain ⟨h1, h2⟩ := List.pairwise_cons.mp h
    split
    · rename_i e
      exact List.pairwise_cons.mpr ⟨fun z hz => by
        rcases List.mem_cons.mp hz with q | q
        · rw [q]; exact e
        · exact leR_trans _ _ _ e (h1 z q), h⟩
    · rename_i e
      refine List.pairwise_cons.mpr ⟨fun z hz => ?_, insR_srt x h2⟩
      rcases List.mem_cons.mp ((insR_perm x ys).mem_iff.mp hz) with q | q
      · rw [q]; exact leR_total _ _ (by simpa using e)
      · exact h1 z q
theorem sortR_srt : ∀ xs : List (List Int), (sortR xs).Pairwise LeR
  | [] => .nil
  | x :: xs => insR_srt x (sortR_srt xs)
/-- by code: the order of rows -/
theorem code_le {B : Int} : ∀ {x y : List Int}, x.length = y.length → TS.Bd B x → TS.Bd B y → TS.code B x ≤ TS.code B y → LeR x y
  | [], _, _, _, _, _ => rfl
  | _ :: _, [], h, _, _, _ => by simp at h
  | x :: xs, y :: ys, h, h1, h2, q => by
    have hl : xs.length = ys.length := by simpa using h
    simp only [LeR, leR]
    by_cases e : x = y
    · subst e
      rw [if_pos rfl]
      refine code_le hl h1.tail h2.tail ?_
      have := TS.code_same (B := B) (d := x) (r := ys) (q := xs) hl.symm
      rcases Int.lt_or_le (TS.code B ys) (TS.code B xs) with z | z
      · have := this.mpr z; omega
      · exact z
    · rw [if_neg e]
      refine decide_eq_true ?_
      rcases Int.lt_trichotomy x y with z | z | z
      · exact z
      · exact absurd z e
      · have := TS.code_lt (B := B) hl.symm h2.tail h1.tail z
        omega
def bigI : List Int → Int
  | [] => 1
  | x :: xs => if bigI xs ≤ x then x + 1 else bigI xs
theorem bigI_lt : ∀ {xs : List Int} {x : Int}, x ∈ xs → x < bigI xs
  | y :: ys, x, h => by
    unfold bigI
    rcases List.mem_cons.mp h with e | e
    · subst e; split <;> omega
    · have := bigI_lt e; split <;> omega
theorem repl_perm {K : PySem.W.Frag} {F : Hp} {xs ys : List V} (h : ys.Perm xs) : ∀ {ds : List D}, RepL K F xs ds → ∃ es, es.Perm ds ∧ RepL K F ys es := by
  induction h with
  | nil => intro ds r; exact ⟨ds, List.Perm.refl _, r⟩
  | cons x p ih =>
    intro ds r
    cases r with
    | cons a r =>
      obtain ⟨es, h1, h2⟩ := ih r
      exact ⟨_ :: es, h1.cons _, .cons a h2⟩
  | swap x y l =>
    intro ds r
    cases r with
    | cons a r =>
      cases r with
      | cons b r => exact ⟨_, List.Perm.swap _ _ _, .cons b (.cons a r)⟩
  | trans p q ih1 ih2 =>
    intro ds r
    obtain ⟨es, h1, h2⟩ := ih2 r
    obtain ⟨fs, h3, h4⟩ := ih1 h2
    exact ⟨fs, h3.trans h1, h4⟩
theorem intsOf_map : ∀ ns : List Int, intsOf (ns.map D.int) = some ns
  | [] => rfl
  | n :: ns => by
    show (intsOf (ns.map D.int)).map (n :: ·) = _
    rw [intsOf_map ns]; rfl
theorem intsOf_eq : ∀ {ds : List D} {ns : List Int}, intsOf ds = some ns → ds = ns.map D.int
  | [], ns, e => by simp [intsOf] at e; subst e; rfl
  | d :: ds, ns, e => by
    cases d with
    | int i =>
      simp only [intsOf, Option.map_eq_some_iff] at e
      obtain ⟨ms, e1, rfl⟩ := e
      rw [intsOf_eq e1]; rfl
    | _ => simp [intsOf] at e
theorem rowOf_eq {d : D} {r : List Int} (e : rowOf d = some r) : d = rowD r := by
  cases d with
  | tup xs => rw [intsOf_eq (show intsOf xs = some r from e)]; rfl
  | _ => simp [rowOf] at e
theorem rowsOf_eq : ∀ {ds : List D} {rs : List (List Int)}, rowsOf ds = some rs → ds = rs.map rowD
  | [], rs, e => by simp [rowsOf] at e; subst e; rfl
  | d :: ds, rs, e => by
    unfold rowsOf at e
    split at e
    · rename_i r q e1 e2
      cases e
      rw [rowOf_eq e1, rowsOf_eq e2]; rfl
    · cases e
theorem rowD_inj {r q : List Int} (e : rowD r = rowD q) : r = q := by
  have h : r.map D.int = q.map D.int := by injection e
  have h1 := intsOf_map r
  rw [h, intsOf_map q] at h1
  exact (Option.some.inj h1).symm
theorem rep_row {K : PySem.W.Frag} {F S H : Hp} {v : V} {r : List Int} (ok : HOK F S H) (h : Rep K F v (rowD r)) : TupI K H v r := by
  unfold rowD at h
  cases h with
  | tup q rl =>
    have e := intsOf_rep (intsOf_map r) rl
    subst e
    exact ⟨_, rfl, .inl (.inl (ok.fh _ _ q))⟩
theorem repl_map {K : PySem.W.Frag} {F : Hp} {ys : List V} {es : List D} {p : V → V → Prop} {q : D → D → Prop} (hpq : ∀ {v u : V} {d e : D}, d ∈ es → e ∈ es → Rep K F v d → Rep K F u e → p v u → q d e) (r : RepL K F ys es) (h : ys.Pairwise p) : es.Pairwise q := by
  induction h generalizing es with
  | nil => cases r; exact .nil
  | @cons y ys h1 _ ih =>
    cases r with
    | @cons _ d _ es r1 rl =>
      refine List.pairwise_cons.mpr ⟨fun e he => ?_, ih (fun hd he => hpq (List.mem_cons_of_mem _ hd) (List.mem_cons_of_mem _ he)) rl⟩
      obtain ⟨i, hi⟩ := List.getElem?_of_mem he
      obtain ⟨u, hu, ru⟩ := RepL.getD' i rl hi
      exact hpq List.mem_cons_self (List.mem_cons_of_mem _ he) r1 ru (h1 u (List.mem_of_getElem? hu))
theorem perm_map_inv {α β : Type} {f : α → β} : ∀ {l : List β} {m : List α}, l.Perm (m.map f) → ∃ m' : List α, l = m'.map f ∧ m'.Perm m := by
  intro l m h
  generalize hn : m.map f = n at h
  induction h generalizing m with
  | nil => cases m with
    | nil => exact ⟨[], rfl, .refl _⟩
    | cons _ _ => simp at hn
  | @cons x l1 l2 p ih =>
    cases m with
    | nil => simp at hn
    | cons y m =>
      simp only [List.map_cons, List.cons.injEq] at hn
      obtain ⟨rfl, hn⟩ := hn
      obtain ⟨m', rfl, h2⟩ := ih hn
      exact ⟨y :: m', rfl, h2.cons _⟩
  | swap x y l =>
    cases m with
    | nil => simp at hn
    | cons a m =>
      cases m with
      | nil => simp at hn
      | cons b m =>
        simp only [List.map_cons, List.cons.injEq] at hn
        obtain ⟨rfl, rfl, rfl⟩ := hn
        exact ⟨b :: a :: m, rfl, .swap _ _ _⟩
  | trans p q ih1 ih2 =>
    obtain ⟨m1, e1, h1⟩ := ih2 hn
    obtain ⟨m2, e2, h2⟩ := ih1 e1.symm
    exact ⟨m2, e2, h2.trans h1⟩
theorem rowsOk_bd {rs : List (List Int)} (h : rowsOk rs = true) (hne : rs ≠ []) : rs.length < 64 ∧ ∃ (d : Nat) (B : Int), 1 ≤ d ∧ ∀ r ∈ rs, r.length = d ∧ TS.Bd B r := by
  cases rs with
  | nil => exact absurd rfl hne
  | cons r rs =>
    unfold rowsOk at h
    rw [Bool.and_eq_true, Bool.and_eq_true, decide_eq_true_eq, decide_eq_true_eq, List.all_eq_true] at h
    obtain ⟨⟨h1, h2⟩, h3⟩ := h
    refine ⟨by rw [List.length_cons]; omega, r.length, bigI (r :: rs).flatten, h2, fun q hq => ?_⟩
    have h4 := h3 q hq
    rw [Bool.and_eq_true, decide_eq_true_eq, List.all_eq_true] at h4
    exact ⟨h4.1, fun m hm => ⟨of_decide_eq_true (h4.2 m hm), bigI_lt (List.mem_flatten.mpr ⟨q, hq, hm⟩)⟩⟩
section
variable {X : Cx}
theorem f_sorted : CallR X (.builtin "sorted") (nOfF X.K fnSorted) := by
  intro pins s σ H xs us Qv I r ⟨F, S, ds, k, ok, rl, t, kk⟩
  unfold fnSorted at t
  split at t
  · obtain ⟨v, rfl, r1⟩ := rl.one
    obtain ⟨a, vs, rfl, hx, rl'⟩ := r1.list ok
    split at t
    · rename_i ns e
      have q := intsOf_rep e rl'
      subst q
      refine cr_sortedI pins s σ H _ us _ I r ⟨a, ns, rfl, .of hx, fun ns' p h1 h2 hp => ?_⟩
      have e2 : ns' = sortI ns := perm_eq (fun _ _ a b => Int.le_antisymm a b) (h1.trans (sortI_perm ns).symm) h2 (sortI_srt ns)
      subst e2
      exact kk _ F _ p _ (Go.newH ok hp _) hp (ok.fh.free hp) (ok.sh.free hp) upd_same (.lst (RepL.ints _)) t
    · split at t
      · rename_i _ h0 _ rs e
        have q := rowsOf_eq e
        subst q
        have hne : rs ≠ [] := fun z => by subst z; exact absurd h0 (by simp [intsOf])
        obtain ⟨h64, d, B, hd, hB⟩ := rowsOk_bd t.1 hne
        have each : ∀ x ∈ vs, ∃ r, r ∈ rs ∧ TupI X.K H x r := fun x hx' => by
          obtain ⟨i, hi⟩ := List.getElem?_of_mem hx'
          obtain ⟨d', h1, h2⟩ := RepL.get i rl' hi
          rw [List.getElem?_map, Option.map_eq_some_iff] at h1
          obtain ⟨r', h3, rfl⟩ := h1
          exact ⟨r', List.mem_of_getElem? h3, rep_row ok h2⟩
        refine cr_sortT (B := B) hd pins s σ H _ us _ I r ⟨a, vs, rfl, .of hx, by rw [rl'.length, List.length_map]; exact h64, fun x hx' => ?_, fun ys p h1 h2 hp => ?_⟩
        · obtain ⟨r', h3, h4⟩ := each x hx'
          exact ⟨r', h4, hB r' h3⟩
        · obtain ⟨es, h3, h4⟩ := repl_perm h1 rl'
          obtain ⟨rs', rfl, h5⟩ := perm_map_inv h3
          have h6 : (rs'.map rowD).Pairwise fun d e => ∀ r q, d = rowD r → e = rowD q → LeR r q := repl_map (K := X.K) (F := F) (p := fun x y => ∀ n m, TupI X.K H x n → TupI X.K H y m → TS.code B n ≤ TS.code B m) (fun {v u d' e'} hd' he' r1 r2 hp r q e1 e2 => by
            subst e1 e2
            obtain ⟨r0, m0, z0⟩ := List.mem_map.mp hd'
            obtain ⟨q0, m1, z1⟩ := List.mem_map.mp he'
            have y0 := rowD_inj z0
            have y1 := rowD_inj z1
            subst y0 y1
            obtain ⟨l0, b0⟩ := hB _ (h5.mem_iff.mp m0)
            obtain ⟨l1, b1⟩ := hB _ (h5.mem_iff.mp m1)
            exact code_le (by omega) b0 b1 (hp _ _ (rep_row ok r1) (rep_row ok r2))) h4 h2
          have h7 : rs'.Pairwise LeR := by
            rw [List.pairwise_map] at h6
            exact h6.imp fun h => h _ _ rfl rfl
          have e2 : rs' = sortR rs := perm_eq leR_anti (h5.trans (sortR_perm rs).symm) h7 (sortR_srt rs)
          subst e2
          exact kk _ F _ p _ (Go.newH ok hp _) hp (ok.fh.free hp) (ok.sh.free hp) upd_same (.lst h4) t.2
      · exact t.elim
  · exact t.elim
end
end DL

end
section
set_option linter.all false
set_option maxRecDepth 100000
set_option autoImplicit false
/-! The data layer: defs whose promise is kept where no repr runs further up (they call repr). -/
namespace DL
open PySem L2 PySem.Spec PyProof.Rows
/-- a promise, kept where no repr is under way -/
structure FnG (P : Program) (w : World) (K : PySem.W.Frag) (mg : PySem.Str → Option Value) (base : Heap) (k : Nat) (f : Addr) (fd : FuncData) (ps : List PySem.Str) (sp : Sp) : Prop where
  count : ∀ vs H Q E, sp vs H Q E → vs.length = ps.length
  go : ∀ (A : Around) (outer : List PySem.Env) (s : Shared) (H : Hp) (args : Args) (us : List Value) (vs : List V) (Q : VK) (E : XK), A.guards = some [] → Room k A → Env0 P w K mg base A outer s H → BindsTo s fd args (ps.zip us) → Vals vs us → sp vs H Q E →
    codeAny (model P w) A (.call (.ref f) args) (CR CX0 outer P w H s Q E) s
theorem FnG.of {P : Program} {w : World} {K : PySem.W.Frag} {mg : PySem.Str → Option Value} {base : Heap} {k : Nat} {f : Addr} {fd : FuncData} {ps : List PySem.Str} {sp : Sp} (h : FnOk P w K mg base CX0 k f fd ps sp) : FnG P w K mg base k f fd ps sp :=
  ⟨h.len, fun A outer s H args us vs Q E _ => h.run A outer s H args us vs Q E⟩
theorem FnG.up {P : Program} {w : World} {K : PySem.W.Frag} {mg : PySem.Str → Option Value} {base : Heap} {j k : Nat} {f : Addr} {fd : FuncData} {ps : List PySem.Str} {sp : Sp} (F : FnG P w K mg base j f fd ps sp) (h : j ≤ k) : FnG P w K mg base k f fd ps sp :=
  ⟨F.count, fun A outer s H args us vs Q E g r => F.go A outer s H args us vs Q E g (r.mono h)⟩

section
variable {P : Program} {w : World} {K : PySem.W.Frag} {mg : PySem.Str → Option Value} {base : Heap}
/-- what a body's end says of its call -/
theorem body_end {N : List PySem.Str} {qual : PySem.Str} {sc : Scope} {f : Addr} {cdv : Value} {A : Around} {outer : List PySem.Env} {s s2 : Shared} {H G : Hp} {E E' : XK} {Q : VK} {τ : L2.St} {x : V} {u : Value}
    (J : Inv (cxOf CX0 P w K mg base N qual sc f cdv A outer s H E) [] τ G s2) (r : RelV x u) (q : Q x G) : CR CX0 outer P w H s Q E' (.ok (.ret u)) s2 :=
  ⟨_, _, J.os, J.bare, J.base, J.hok, r, q⟩
/-- as fn_ok, the body walked where no repr is under way -/
theorem fn_okG {x qual : PySem.Str} {st : Stmt} {f : Addr} {fd : FuncData} {N ps : List PySem.Str} {k : Nat} {T : (D → Hp → Prop) → TS Hp} (G : Fun K x qual st f fd) (sc : FnScope N ps (defScope st))
    (hbody : ∀ (cdv : Value) (A : Around) (outer : List PySem.Env) (s : Shared) (H : Hp) (E : XK) (ex : D → Hp → Prop), A.guards = some [] → Room k (A.deeper (envOfC qual (defScope st) s.heap.objs.size f cdv)) → DSs (cxOf CX0 P w K mg base N qual (defScope st) f cdv A outer s H E).nox (defBody st) (T ex)) :
    FnG P w K mg base (k + 1) f fd ps (spOf K ps.length (fDef N.length T)) := by
  obtain ⟨oc, od, kV, doc, pm, an, cdv, ct, osl, rfl, lk, hcd⟩ := G.ex
  refine ⟨fun _ _ _ _ q => q.1, fun A outer s H args us vs Q E hgd room e0 bind rv sp => ?_⟩
  obtain ⟨hl, F, S, ds, kk, ex, ok, r, t, fin⟩ := sp
  have there : ∀ (b : Addr) (o : Obj), base.get? b = some o → s.heap.get? b = some o := fun b o q => (e0.bs b o q).1
  have kin := e0.mod.kin.keeps there
  have bound : ∀ y ∈ ps.zip us, (defScope st).names.lookup y.1 = some .local ∨ ((defScope st).names.lookup y.1 = some .cell ∧ ((cellsFrom (s.heap.objs.size + 1) (defScope st).names []).lookup y.1).isSome = true) := by
    rintro ⟨n, v⟩ hy
    exact (sc.par n (List.of_mem_zip hy).1).imp id fun q => And.intro q (PySem.W.cellsFrom_some _ _ _ (.inl q))
  have body := PSs.nox (hbody cdv A outer s H E ex hgd (room.deeper _))
  refine codeAny_call_function room.depth (kin _ _ lk) rfl sc.co sc.gen rfl (PySem.W.codeRec_of kin hcd) (bind _ _ _ _ ?_)
  refine wpAny_newFunctionEnv_cells sc.kind bound ?_
  rintro env rfl s1 inC
  refine And.intro (e0.mod.nolimit.keeps there |>.keeps inC.toInCall.keep) (codeAny_func ?_)
  have J : Inv (cxOf CX0 P w K mg base N qual (defScope st) f cdv A outer s H E) [] (L2.start N vs) H s1 := inv_start sc room.hd e0 hl rv inC
  exact wpAny_mono (body.run [] s1 (L2.start N vs) H { nx := fun _ H' => Q .non H', rt := Q } J ⟨F, S, H, F, S, startE N.length ds, _, Go.refl ok, start_ok ok r, t, ⟨fun F' S' H' env σ _ g st q => fin _ _ _ _ _ g .non q, fun F' S' H' d v _ g r q => fin _ _ _ _ _ g r q, fun _ _ _ _ _ _ _ _ q => q.elim, fun _ _ _ _ _ _ _ _ q => q.elim⟩⟩) (fun fl s' q => by
    match fl, q with
    | .ret u, ⟨_, _, _, I2, r2, q2⟩ => exact body_end I2 r2 q2
    | .next, ⟨_, _, I2, q2⟩ => exact body_end (x := .non) (u := Value.none) I2 rfl q2
    | .brk, ⟨_, _, _, q2⟩ => exact q2.elim
    | .cont, ⟨_, _, _, q2⟩ => exact q2.elim) fun e s' q => q
end
end DL
namespace DL
open PySem L2 PySem.Spec PyProof.Rows
section
variable {X : Cx}
theorem f_repr (hgd : X.A.guards = some []) {lv : Nat} (hr : Room lv X.A) : CallR X (.builtin "repr") (nOf X.K fnRepr) := by
  intro pins s σ H xs us Qv I r ⟨F, S, ds, k, ok, rl, t, kk⟩
  unfold fnRepr at t
  split at t
  · rename_i d
    obtain ⟨hf, hs, hl, q⟩ := t
    obtain ⟨v, rfl, r1⟩ := rl.one
    obtain ⟨u, rfl, rx⟩ := vals1 r
    have sh := flat_shaped hf
    have fin : ∀ (u : Tok) (h' : Heap) (tk : Nat), (∀ b o, s.heap.get? b = some o → h'.get? b = some o) → EP X pins σ Qv (.str (toPy d).shown u) { s with heap := h', toks := tk } := fun u h' tk hk =>
      ⟨.str _, H, I.kept hk, ⟨_, rfl⟩, kk _ F H _ (Go.refl ok) (.str _) q⟩
    have big : ∀ a : Addr, u = .ref a → wpAny (model X.prog X.w) X.A (call (.builtin "repr") [u]) (EP X pins σ Qv) X.xe s := fun a e => by
      subst e
      obtain ⟨as, rd⟩ := Dp.reads I _ _ _ (repB_dp ok hf r1) rx
      refine repr_of_reads' rd hs (PyData.noDict_hsm (PyData.hasDict_of_canLay _ (SeqAt.canLay_of_shaped sh))) hgd ?_ (fun _ _ e => e) (fun h' u tk hk => fin u h' tk hk) hl
      have h1 := SeqAt.depth_of_shaped sh
      have h2 := hr.un
      omega
    cases d with
    | non => have e := r1.non; subst e; obtain rfl : u = Value.none := rx; exact PySem.P.repr_of_none (fin _ _ _ fun _ _ e => e)
    | bl b => have e := r1.bl; subst e; obtain rfl : u = Value.bool b := rx; exact PySem.P.repr_of_bool (fin _ _ _ fun _ _ e => e)
    | int i => have e := r1.int; subst e; obtain ⟨z, rfl⟩ := rx; exact PySem.P.repr_of_int (of_decide_eq_true hs) (fin _ _ _ fun _ _ e => e)
    | str x => have e := r1.str; subst e; obtain ⟨z, rfl⟩ := rx; exact PySem.P.repr_of_str (fin _ _ _ fun _ _ e => e) hl
    | tup ys =>
      obtain ⟨a, vs, rfl, hx, rl'⟩ := r1.tup ok
      obtain rfl : u = Value.ref a := rx
      exact big a rfl
    | lst ys =>
      obtain ⟨a, vs, rfl, hx, rl'⟩ := r1.list ok
      obtain rfl : u = Value.ref a := rx
      exact big a rfl
    | _ => exact nomatch (show false = true from hf)
  · exact t.elim
end
end DL
namespace DL
open PySem L2 PySem.Spec PyProof.Rows
/-- what is known of a def that calls repr -/
def HasG (P : Program) (w : World) (K : PySem.W.Frag) (mg : PySem.Str → Option Value) (base : Heap) (x : PySem.Str) (lv : Nat) (ps : List PySem.Str) (f : FS Hp) : Prop :=
  ∃ (g : Addr) (fd : FuncData), FnG P w K mg base lv g fd ps (spOf K ps.length f) ∧ mg x = some (.ref g) ∧ PySem.W.keepIn K (.ref g) = true ∧ Binds K fd ps []
section
variable {X : Cx} {e : Expr} {es : List Expr} {r : TA Hp} {pos p : Pos} {x : PySem.Str} {lv : Nat} {ps : List PySem.Str} {f : FS Hp} {ex : D → Hp → Prop}
/-- the callee runs, no repr being under way -/
theorem run_G {g : Addr} {fd : FuncData} {sp : Sp} {pins : List (Addr × Obj)} {σ : L2.St} {H : Hp} {s : Shared} {Q : VK} {us : List Value} {vs : List V} (hgd : X.A.guards = some []) (F : FnG X.prog X.w X.K X.mg X.base lv g fd ps sp) (hr : Room lv X.A) (hb : Binds X.K fd ps [])
    (I : Inv X pins σ H s) (rv : Vals vs us) (h : sp vs H Q L2.E0) : wpAny (model X.prog X.w) X.A (call (.ref g) us) (EP X pins σ Q) X.xe s := by
  have bd := hb s us I.kIn (by rw [List.append_nil, ← rv.length]; exact F.count _ _ _ _ h)
  rw [List.append_nil] at bd
  refine wpAny_call (codeAny_mono (F.go X.A X.stack s H ⟨us, []⟩ us vs Q L2.E0 hgd hr I.env0 bd rv h) fun o s' ho => ?_)
  match o, ho with
  | .error _, z => exact z.elim
  | .ok (.ret u), z => exact I.after z
  | .ok .next, z => exact z.elim
  | .ok .brk, z => exact z.elim
  | .ok .cont, z => exact z.elim
theorem de_callG (h : HasG X.prog X.w X.K X.mg X.base x lv ps f) (hgd : X.A.guards = some []) (hr : Room lv X.A) (ha : DA X (e :: es) r) (hl : (e :: es).length = ps.length := by rfl) (hg : Gl X x := by rfl) (hdb : (x == ("__debug__" : PySem.Str)) = false := by decide)
    (he : starEach (e :: es) X.env = (false, eval e X.env) :: starEach es X.env := by rfl) (hpl : (backTo pos (starEach es X.env)).any (·.1) = false := by rfl) : DE X (.Call (.Name x p) (e :: es) [] pos) (eCall f ex r) := by
  obtain ⟨g, fd, G, hm, hk, hb⟩ := h
  refine ⟨fun pins s σ H Qv I ⟨B, F, S, env, Q, st, t, k⟩ => wpAny_Call_Name_kw (ld_glob I hg hm ?_ hdb)⟩
  have args := PA.run ha pos pins s σ H (fun vs H1 => spOf X.K ps.length f vs H1 Qv L2.E0) I ⟨B, F, S, env, fun xs s1 => f xs s1 Q ex, st, t, fun ds S1 F1 H1 vs g1 r1 l q1 => ⟨by rw [r1.length, l]; exact hl, F1, S1, ds, Q, ex, g1.ok, r1, q1, fun d S' F' H' v g2 r2 q2 => k d S' F' H' v (g1.trans g2) r2 q2⟩⟩
  exact PySem.W.callWith_K (h₀ := X.base) I.ok.mod.kin hk (thn args fun us s1 ⟨vs, H1, I1, rv, q⟩ => And.intro I1.kIn (run_G hgd G hr hb I1 rv q)) he hpl
end
end DL
namespace DL
open PySem L2 PySem.Spec PyProof.Rows
section
variable {P : Program} {w : World} {K : PySem.W.Frag} {mg mb : PySem.Str → Option Value} {k : Nat} {fa a : Addr} {fd : FuncData} {x : PySem.Str} {sp : Sp} {s₁ : Shared} {vs : List Value} {ns : List Int}
/-- what is wanted of the law's call -/
abbrev LawEnd (s₁ : Shared) (r : Result) (s' : Shared) : Prop := r = .ok (.ret (.bool true)) ∧ OldK s₁.heap s'.heap ∧ s'.os = s₁.os ∧ AllBare s'.gens
/-- the script: known, or the module's own -/
def scrH (a : Addr) (o : Obj) (xs : List V) : Hp := fun b => if b = a then some (.frz o (.lst xs)) else none
theorem scrH_at {a : Addr} {o : Obj} {xs : List V} : scrH a o xs a = some (.frz o (.lst xs)) := if_pos rfl
theorem scrH_no {a b : Addr} {o : Obj} {xs : List V} (h : b ≠ a) : scrH a o xs b = none := if_neg h
theorem scrH_is {a b : Addr} {o : Obj} {xs : List V} {u : HO} (h : scrH a o xs b = some u) : b = a ∧ u = .frz o (.lst xs) := by
  by_cases e : b = a
  · subst e; rw [scrH_at] at h; exact ⟨rfl, (Option.some.inj h).symm⟩
  · rw [scrH_no e] at h; cases h
theorem end_coreG (inK : K.In s₁.heap) (gl : s₁.heap.Ns mainGlobals mg) (bl : s₁.heap.Ns builtinsNs mb) (same : ∀ y : PySem.Str, y ≠ "__name__" → mb y = bootBuiltins y) (lim : s₁.heap.NoLimit) (noGen : s₁.gens = #[])
    (at_a : s₁.heap.get? a = some { cls := .type "list", data := .seq vs.toArray }) (room : Room k callerA) (F : ∀ base : Heap, K.In base → base.Ns mainGlobals mg → FnG P w K mg base k fa fd [x] sp)
    (bind : ∀ (s : Shared) (u : Value), BindsTo s fd ⟨[u], []⟩ [(x, u)]) {H : Hp} (only : Only H) (hok : HOk P w H s₁.heap) (none_but : ∀ b, H b ≠ none → b = a ∧ K.lookup b = none)
    (hsp : sp [.ref a] H (fun v _ => v = .bl true) fun _ _ _ => False) : codeAny (model P w) callerA (.call (.ref fa) ⟨[.ref a], []⟩) (LawEnd s₁) s₁ := by
  have stays : ∀ {b : Addr} {o : Obj}, s₁.heap.get? b = some o → H b = none → (hidT s₁.heap H).get? b = some o := fun {b o} q n => hidT_get q n
  have free_dict : ∀ {b : Addr} {o : Obj} {es : Array DictEntry} {ep : Nat}, s₁.heap.get? b = some o → o.data = .dict es ep → H b = none := by
    intro b o es ep q dq
    rcases Classical.em (H b = none) with z | z
    · exact z
    · obtain ⟨rfl, _⟩ := none_but b z
      rw [at_a] at q
      cases q
      exact nomatch (show Data.seq vs.toArray _ = Data.dict es ep from dq)
  have free_K : ∀ {b : Addr} {o : Obj}, K.lookup b = some o → H b = none := by
    intro b o q
    rcases Classical.em (H b = none) with z | z
    · exact z
    · rw [(none_but b z).2] at q; cases q
  have space : ∀ {b : Addr} {m : PySem.Str → Option Value}, s₁.heap.Ns b m → (hidT s₁.heap H).Ns b m := by
    rintro b m ⟨o, es, ep, q, dq, rest⟩
    exact ⟨o, es, ep, stays q (free_dict q dq), dq, rest⟩
  have inB : K.In (hidT s₁.heap H) := fun b o q => stays (inK b o q) (free_K q)
  obtain ⟨mc, lim1, lim2⟩ := lim
  have e0 : Env0 P w K mg (hidT s₁.heap H) callerA [] s₁ H := by
    refine ⟨rfl, ⟨inB, space gl, ⟨mb, space bl, same⟩, mc, space lim1, lim2⟩, fun b o q => of_hidT q, Nat.le_of_eq (hidT_size _ _), trivial, ?_, hok, .of_eq noGen⟩
    intro b hb
    exact nomatch (show b ∈ ([] : List Addr) from hb)
  have run := (F _ inB (space gl)).go callerA [] s₁ H ⟨[.ref a], []⟩ [.ref a] [.ref a] (fun v _ => v = .bl true) (fun _ _ _ => False) rfl room e0 (bind s₁ (.ref a)) (.cons rfl .nil) hsp
  refine codeAny_mono run ?_
  intro r s' z
  match r, z with
  | .ok (.ret u), ⟨v, H', os, bare, un, hok', rv, q⟩ =>
    have qv : v = .bl true := q
    subst qv
    refine ⟨by rw [show u = Value.bool true from rv], OldK.of_keep ?_, os, bare⟩
    intro b o hb
    rcases only b with n | ⟨ob, xs, n⟩
    · exact un.keep b o hb n (fun z => nomatch (show b ∈ ([] : List Addr) from z)) (fun z => nomatch z)
    · have was := (hok b _ n).1
      have is := (hok' b _ (un.frzs b ob _ n)).1
      rw [hb] at was
      cases was
      exact is
theorem law_endG (inK : K.In s₁.heap) (gl : s₁.heap.Ns mainGlobals mg) (bl : s₁.heap.Ns builtinsNs mb) (same : ∀ y : PySem.Str, y ≠ "__name__" → mb y = bootBuiltins y) (lim : s₁.heap.NoLimit) (noGen : s₁.gens = #[])
    (at_a : s₁.heap.get? a = some { cls := .type "list", data := .seq vs.toArray }) (hints : IntsAre vs ns) (fits : ns.length ≤ sizeLine) (room : Room k callerA) (F : ∀ base : Heap, K.In base → base.Ns mainGlobals mg → FnG P w K mg base k fa fd [x] sp)
    (bind : ∀ (s : Shared) (u : Value), BindsTo s fd ⟨[u], []⟩ [(x, u)]) (hsp : ∀ H : Hp, Only H → SqL K H a (ns.map V.int) → sp [.ref a] H (fun v _ => v = .bl true) fun _ _ _ => False) :
    codeAny (model P w) callerA (.call (.ref fa) ⟨[.ref a], []⟩) (LawEnd s₁) s₁ := by
  have vals := vals_ints hints
  cases own : K.lookup a with
  | some o =>
    have q := inK a o own
    rw [at_a] at q
    obtain rfl := Option.some.inj q
    refine end_coreG inK gl bl same lim noGen at_a room F bind (H := fun _ => none) (fun _ => .inl rfl) (fun _ _ z => nomatch z) (fun _ z => absurd rfl z) (hsp _ (fun _ => .inl rfl) (.inr ⟨_, vs.toArray, _, own, rfl, rfl, rfl, ?_, vals⟩))
    rw [List.size_toArray, hints.length]
    exact fits
  | none =>
    have just : Only (scrH a { cls := .type "list", data := .seq vs.toArray } (ns.map V.int)) := fun b => by
      rcases Classical.em (b = a) with e | e
      · subst e; exact .inr ⟨_, _, scrH_at⟩
      · exact .inl (scrH_no e)
    refine end_coreG inK gl bl same lim noGen at_a room F bind just (fun b u z => ?_) (fun b z => ?_) (hsp _ just (.inl (.inr ⟨_, scrH_at⟩)))
    · obtain ⟨rfl, rfl⟩ := scrH_is z
      exact ⟨at_a, by rw [List.length_map]; exact fits, vs, _, vals, at_a⟩
    · rcases Classical.em (b = a) with e | e
      · subst e; exact ⟨rfl, own⟩
      · exact absurd (scrH_no e) z
end
/-- the end: the law's def keeps its promise where no repr is under way -/
theorem walk_allG {l : PySem.W.OpenLaw} {q : Program} {loose : List PySem.Str} {XP : (PySem.Str → Option Value) → Heap → Prop} {YP : World → Heap → Prop} {d : DefRec} {K : Params → PySem.W.Frag} {k : Nat} {f : FS Hp} (hn : l.most = some 63) (hr : Room k callerA) (hdf : d.params.defaults = [])
    (hY : ∀ (w : World) (h : Heap), YP w h → (K w.params).In h)
    (plain : ∀ ns : List Int, ns.length ≤ 63 → f [.scr (ns.map .int)] (fun _ => none) (fun v _ => v = .bl true) (fun _ _ => False))
    (F : ∀ (w : World) (mg : PySem.Str → Option Value) (fa : Addr) (h : Heap), (K w.params).In h → h.Ns mainGlobals mg → mg d.name = some (.ref fa) →
      ∃ fd : FuncData, (∀ (s : Shared) (u : Value), BindsTo s fd ⟨[u], []⟩ [("script", u)]) ∧ ∀ base : Heap, (K w.params).In base → base.Ns mainGlobals mg → FnG l.prog w (K w.params) mg base k fa fd ["script"] (spOf (K w.params) 1 f)) :
    PySem.W.WalkO q loose XP YP l.row.toRowW d [] (fun f vs => PySem.call f vs) := by
  refine Att.attach_callB hn hdf ?_
  intro w s₀ s₁ mg mb fa o pm cd doc a vs ns G Y _ _ _ named obj hints few _ noGen
  obtain ⟨fd, bind, keeps⟩ := F w mg fa _ (hY w _ Y) G.T.g named
  refine law_endG (hY w _ Y) G.T.g G.T.b G.T.builtins G.T.nolimit noGen obj hints (Nat.le_trans few (by decide)) hr keeps bind ?_
  intro H _ script
  exact ⟨rfl, H, fun _ => none, [.scr (ns.map .int)], _, fun _ _ => False, ⟨Same.refl H, fun _ _ h => (nomatch h), fun _ _ => rfl⟩, .cons (.scr script (RepL.ints ns)) .nil, plain ns few, fun d S' F' H' v g r q => by subst q; cases r; rfl⟩
end DL
namespace DL
open PySem L2
theorem fn_sameG {P : Program} {w : World} {K : PySem.W.Frag} {mg : PySem.Str → Option Value} {base : Heap} {k : Nat} {x : PySem.Str} {st st' : Stmt} {f : Addr} {fd fd' : FuncData} {ps : List PySem.Str} {sp : Sp} (F : Fun K x x st f fd) (F' : Fun K x x st' f fd') (h : FnG P w K mg base k f fd' ps sp) : FnG P w K mg base k f fd ps sp := by
  obtain ⟨_, _, _, _, _, _, _, _, _, _, l1, _⟩ := F.ex
  obtain ⟨_, _, _, _, _, _, _, _, _, _, l2, _⟩ := F'.ex
  rw [l1] at l2
  have e : fd = fd' := by
    have := Option.some.inj l2
    injection this with _ _ e _
    injection e
  rw [e]
  exact h
end DL

end
section
set_option linter.all false
set_option maxRecDepth 100000
set_option autoImplicit false
/-! The data layer: list(range), list of a dict, dicts of one's own, append of a pop. -/
namespace DL
open PySem L2 PySem.Spec PyProof.Rows
theorem repKV_keys {K : PySem.W.Frag} {F : Hp} {kvs : List (Key × V)} {kds : List (Key × D)} (h : RepKV K F kvs kds) : RepL K F (kvs.map fun kv => kV kv.1) (kds.map fun p => keyD p.1) := by
  induction h with
  | nil => exact .nil
  | @cons k v d r q a _ ih =>
    refine .cons ?_ ih
    cases k with
    | inl i => exact .int i
    | inr x => exact .str x
section
variable {X : Cx}
theorem f_listA (hc : X.calm = true) : CallR X (.type "list") (nOfF X.K fnListA) := by
  intro pins s σ H xs us Qv I r ⟨F, S, ds, k, ok, rl, t, kk⟩
  unfold fnListA at t
  split at t
  · obtain ⟨v, rfl, r1⟩ := rl.one
    obtain ⟨a, vs, rfl, hx, rl'⟩ := r1.list ok
    exact call_list_of pins s σ H _ us _ I r ⟨a, vs, rfl, .inl (.of hx), fun p hp => kk _ F _ p _ (Go.newH ok hp _) hp (ok.fh.free hp) (ok.sh.free hp) upd_same (.lst rl') t⟩
  · obtain ⟨v, rfl, r1⟩ := rl.one
    obtain ⟨a, vs, rfl, hx, rl'⟩ := r1.tup ok
    exact call_list_of pins s σ H _ us _ I r ⟨a, vs, rfl, .inr hx, fun p hp => kk _ F _ p _ (Go.newH ok hp _) hp (ok.fh.free hp) (ok.sh.free hp) upd_same (.lst rl') t⟩
  · obtain ⟨v, rfl, r1⟩ := rl.one
    obtain ⟨a, kvs, rfl, hx, rl'⟩ := repB_dK ok r1
    exact call_list_dK hc pins s σ H _ us _ I r ⟨a, kvs, rfl, hx, fun p hp => kk _ F _ p _ (Go.newH ok hp _) hp (ok.fh.free hp) (ok.sh.free hp) upd_same (.lst (repKV_keys rl')) t⟩
  · exact t.elim
end
section
variable {X : Cx} {e a b c o : Expr} {es : List Expr} {T Ta Tb Tc Ti : TE Hp} {pos apos cpos p pos' : Pos}
theorem df_newK : DF X (.Dict [] [] pos) eNewK := pe_weak pe_dnewK fun σ H Qv ⟨B, F, S, env, Q, st, t, k⟩ => fun p hp =>
  k _ S F _ p _ (Go.newH st.ok hp _) hp (st.ok.fh.free hp) (st.ok.sh.free hp) upd_same (OwnR.ofK .nil) t
theorem df_newT : DF X (.Dict [] [] pos) eNewT := pe_weak pe_dnewT fun σ H Qv ⟨B, F, S, env, Q, st, t, k⟩ => fun p hp =>
  k _ S F _ p _ (Go.newH st.ok hp _) hp (st.ok.fh.free hp) (st.ok.sh.free hp) upd_same (OwnR.ofT .nil) t
/-- d[k] = v -/
theorem ds_dkPut {i : Nat} {x : PySem.Str} {ix : Expr} (hu : X.A.units + 64 < cLine) (he : DE X e T) (hix : DB X ix Ti) (hN : X.N[i]? = some x := by rfl) (hv : Vis X.env.scope x := by first | exact Or.inl rfl | exact Or.inr (Or.inl rfl) | exact Or.inr (Or.inr rfl)) (hd : (x == ("__debug__" : PySem.Str)) = false := by decide)
    (hcd : (x == ("__classdict__" : PySem.Str)) = false := by decide) (hs : swapsWith e (some (.Subscript (.Name x p) ix pos')) pos.line X.env = pure false := by rfl) :
    DS X (.Assign [.Subscript (.Name x p) ix pos'] e pos) (sDkPut i Ti T) :=
  ps_weak (ps_dput (by omega) (pe_var hN hv hd hcd) hix he hs) fun D σ H ⟨F0, S0, B, F, S, env, KD, g, st, t, k⟩ => by
  unfold sDkPut at t
  split at t
  · rename_i d0 ei
    obtain ⟨a, o, h1, h2, h3, h4, h5, h6⟩ := st.own ei
    refine ⟨B, F, S, env, _, st, t, fun d S1 F1 H1 v g1 r1 q1 => ⟨_, h1, B, F1, S1, env, _, st.go g1, q1, fun dn S2 F2 H2 y g2 r2 q2 => ?_⟩⟩
    have st2 := (st.go g1).go g2
    obtain ⟨a', o', j1, j2, j3, j4, j5, j6⟩ := st2.own ei
    rw [h1] at j1
    cases j1
    have rv := r1.mono g2.ff
    unfold putDk at q2
    split at q2
    · split at q2
      · rename_i q eq
        obtain ⟨kvs, rfl, rk⟩ := j6.dKV
        have e := keyOf_rep g2.ok r2 eq
        subst e
        obtain ⟨g3, st3⟩ := st2.write (g.trans (g1.trans g2)) ei h1 (OwnR.ofK (rk.put q rv))
        exact ⟨a, _, rfl, DPut.k j5 (by rw [rk.length]; exact q2.1), k.nx _ _ _ _ _ (g1.trans g2).ff g3 st3 q2.2⟩
      · exact q2.elim
    · split at q2
      · rename_i q eq
        obtain ⟨kvs, rfl, rk⟩ := j6.dTV
        obtain ⟨b, rfl, hb⟩ := repB_key g2.ok r2 eq
        obtain ⟨g3, st3⟩ := st2.write (g.trans (g1.trans g2)) ei h1 (OwnR.ofT (rk.put q rv))
        exact ⟨a, _, rfl, DPut.t j5 hb (by rw [rk.length]; exact q2.1), k.nx _ _ _ _ _ (g1.trans g2).ff g3 st3 q2.2⟩
      · exact q2.elim
    · exact q2.elim
  · exact t.elim
theorem rgV_rep {K : PySem.W.Frag} {F : Hp} (lo hi : Int) : RepL K F (rgV lo hi) (intsFrom lo (hi - lo).toNat) := by
  unfold rgV
  have z : ∀ (n : Nat) (lo : Int), RepL K F ((List.range n).map fun i => V.int (lo + (i : Nat))) (intsFrom lo n) := fun n => by
    induction n with
    | zero => intro lo; exact .nil
    | succ n ih =>
      intro lo
      rw [List.range_succ_eq_map, List.map_cons, List.map_map]
      refine .cons (by rw [show lo + ((0 : Nat) : Int) = lo by omega]; exact .int lo) ?_
      have := ih (lo + 1)
      have e : ((fun i : Nat => V.int (lo + (i : Nat))) ∘ Nat.succ) = fun i : Nat => V.int (lo + 1 + (i : Nat)) := by
        funext i
        show V.int (lo + ((i + 1 : Nat) : Int)) = _
        congr 1
        omega
      rw [e]
      exact this
  exact z _ _
theorem intsFrom_length : ∀ (n : Nat) (lo : Int), (intsFrom lo n).length = n
  | 0, _ => rfl
  | n + 1, lo => by simp [intsFrom, intsFrom_length n]
/-- list(range(a)) -/
theorem df_lstRng1 {pl rpos : Pos} (hc : X.calm = true) (ha : DE X a Ta) (hm : X.mg "list" = none) (hm2 : X.mg "range" = none) (hg : Gl X "list" := by rfl) (hg2 : Gl X "range" := by rfl) (na : starEach [.Call (.Name "range" p) [a] [] rpos] X.env = (false, eval (.Call (.Name "range" p) [a] [] rpos) X.env) :: starEach [] X.env := by rfl) (na2 : starEach [a] X.env = (false, eval a X.env) :: starEach [] X.env := by rfl) :
    DF X (.Call (.Name "list" pl) [.Call (.Name "range" p) [a] [] rpos] [] pos) (eLstI (iRng (aCons Ta aNil))) :=
  pe_weak (pe_listRg hc hg hm (prg_1 hg2 hm2 ha na2) na) fun σ H Qv ⟨B, F, S, env, Q, st, t, k⟩ => by
  refine ⟨B, F, S, env, _, st, t, fun d S1 F1 H1 v g1 r1 q1 => ?_⟩
  have q2 : rng [d] fun xs => xs.length ≤ line ∧ Q (.lst xs) S1 := q1
  unfold rng at q2
  split at q2
  · rename_i k0 hi e0
    cases e0
    have e := rep_int r1
    subst e
    obtain ⟨z1, z2, z3, z4⟩ := q2
    rw [intsFrom_length] at z3
    refine ⟨_, rfl, ⟨by decide, by decide, z1, z2, by rw [show hi - 0 = hi by omega]; exact z3⟩, fun q hq => ?_⟩
    have rr := rgV_rep (K := X.K) (F := F1) 0 hi
    rw [show hi - 0 = hi by omega] at rr
    exact k _ S1 F1 _ q _ (g1.trans (Go.newH g1.ok hq _)) (by cases z : H q with
      | none => rfl
      | some u => exact absurd hq (g1.dom q (by rw [z]; exact fun y => nomatch y))) (g1.ok.fh.free hq) (g1.ok.sh.free hq) upd_same (.lst rr) z4
  · rename_i e0; cases e0
  · rename_i e0; cases e0
  · exact q2.elim
theorem RepL.erase {K : PySem.W.Frag} {F : Hp} : ∀ (n : Nat) {vs : List V} {ds : List D}, RepL K F vs ds → RepL K F (vs.eraseIdx n) (ds.eraseIdx n)
  | _, _, _, .nil => .nil
  | 0, _, _, .cons _ r => r
  | n + 1, _, _, .cons q r => .cons q (RepL.erase n r)
theorem ixN_seq {n m : Nat} {i : Int} (h : DL.ixN n i = some m) : seqIndex? i n = some m ∧ -(n : Int) ≤ i ∧ i < n := by
  unfold DL.ixN at h
  unfold seqIndex?
  split at h
  · split at h
    · rename_i h0 h1
      cases h
      refine ⟨?_, by omega, by omega⟩
      have h2 : ¬ i < 0 := by omega
      simp [h2, h0, h1]
    · cases h
  · split at h
    · rename_i h0 h1
      cases h
      refine ⟨?_, by omega, by omega⟩
      have h2 : i < 0 := by omega
      have h3 : 0 ≤ i + (n : Int) := by omega
      have h4 : i + (n : Int) < n := by omega
      simp [h2, h3, h4]
    · cases h
/-- xs.append(ys.pop(e)) -/
theorem ds_appPop {i j : Nat} {x y : PySem.Str} {p2 apos2 cpos2 : Pos} (he : DE X e T) (hij : i ≠ j) (hN : X.N[i]? = some x := by rfl) (hM : X.N[j]? = some y := by rfl)
    (hv : Vis X.env.scope x := by first | exact Or.inl rfl | exact Or.inr (Or.inl rfl) | exact Or.inr (Or.inr rfl)) (hw : Vis X.env.scope y := by first | exact Or.inl rfl | exact Or.inr (Or.inl rfl) | exact Or.inr (Or.inr rfl))
    (hd : (x == ("__debug__" : PySem.Str)) = false := by decide) (hcd : (x == ("__classdict__" : PySem.Str)) = false := by decide) (hd2 : (y == ("__debug__" : PySem.Str)) = false := by decide) (hcd2 : (y == ("__classdict__" : PySem.Str)) = false := by decide)
    (hbase : attributeBase (.Name x p) "append" X.env (eval (.Name x p) X.env) = eval (.Name x p) X.env := by rfl) (hbase2 : attributeBase (.Name y p2) "pop" X.env (eval (.Name y p2) X.env) = eval (.Name y p2) X.env := by rfl)
    (hfew : ((backTo cpos (starEach [.Call (.Attribute (.Name y p2) "pop" apos2) [e] [] cpos2] X.env)).all (fun x => !x.1) && (backToKw cpos (keywordEach [] X.env)).all (fun x => x.1.isSome) && decide (([.Call (.Attribute (.Name y p2) "pop" apos2) [e] [] cpos2] : List Expr).length + ([] : List Keyword).length + (if ([] : List Keyword).isEmpty then 0 else 1) < 30)) = true := by rfl)
    (hfew2 : ((backTo cpos2 (starEach [e] X.env)).all (fun x => !x.1) && (backToKw cpos2 (keywordEach [] X.env)).all (fun x => x.1.isSome) && decide (([e] : List Expr).length + ([] : List Keyword).length + (if ([] : List Keyword).isEmpty then 0 else 1) < 30)) = true := by rfl)
    (hline : (apos.endLine == cpos.line) = true := by rfl) (hline2 : (apos2.endLine == cpos2.line) = true := by rfl)
    (hs : starEach [.Call (.Attribute (.Name y p2) "pop" apos2) [e] [] cpos2] X.env = (false, eval (.Call (.Attribute (.Name y p2) "pop" apos2) [e] [] cpos2) X.env) :: starEach [] X.env := by rfl) (hs2 : starEach [e] X.env = (false, eval e X.env) :: starEach [] X.env := by rfl)
    (hplain : (backTo cpos (starEach [] X.env)).any (·.1) = false := by rfl) (hplain2 : (backTo cpos2 (starEach [] X.env)).any (·.1) = false := by rfl)
    (hsw : swapsWith (.Call (.Attribute (.Name x p) "append" apos) [.Call (.Attribute (.Name y p2) "pop" apos2) [e] [] cpos2] [] cpos) none pos.line X.env = pure false := by rfl) :
    DS X (.Expr (.Call (.Attribute (.Name x p) "append" apos) [.Call (.Attribute (.Name y p2) "pop" apos2) [e] [] cpos2] [] cpos) pos) (sAppPop i j T) :=
  ps_weak (ps_expr (pe_bm PySem.F.plainAttrs_list PySem.F.slot_list_append PySem.F.type_list_append mt_append (pe_var hN hv hd hcd) (pa_cons (pe_bm PySem.F.plainAttrs_list PySem.F.slot_list_pop PySem.F.type_list_pop mt_popAt (pe_var hM hw hd2 hcd2) (pa_cons he pa_nil hs2) hbase2 hfew2 hline2 hs2 hplain2) pa_nil hs) hbase hfew hline hs hplain) hsw) fun D σ H ⟨F0, S0, B, F, S, env, KD, g, st, t, k⟩ => by
  unfold sAppPop at t
  split at t
  · rename_i ds es ei ej
    obtain ⟨a, o, h1, h2, h3, h4, h5, h6⟩ := st.own ei
    obtain ⟨a2, o2, m1, m2, m3, m4, m5, m6⟩ := st.own ej
    cases h6 with
    | lst rl =>
      cases m6 with
      | lst rm =>
        refine ⟨_, h1, .inl ⟨rfl, _, .of h5⟩, _, m1, .inl ⟨rfl, _, .of m5⟩, B, F, S, env, _, st, t, fun d S1 F1 H1 v g1 r1 q1 => ?_⟩
        split at q1
        · rename_i n
          have e := rep_int r1
          subst e
          have st1 := st.go g1
          obtain ⟨b, o', j1, j2, j3, j4, j5, j6⟩ := st1.own ei
          obtain ⟨b2, o2', l1, l2, l3, l4, l5, l6⟩ := st1.own ej
          rw [h1] at j1
          cases j1
          rw [m1] at l1
          cases l1
          cases j6 with
          | lst rl' =>
            cases l6 with
            | lst rm' =>
              split at q1
              · rename_i m em
                split at q1
                · rename_i d ed
                  obtain ⟨y', ey, ry⟩ := RepL.getD' m rm' ed
                  have el := rm'.length
                  obtain ⟨b1, b2, b3⟩ := ixN_seq em
                  obtain ⟨g2, st2⟩ := st1.write (g.trans g1) ej m1 (.lst (rm'.erase m))
                  obtain ⟨c, o3, n1, n2, n3, n4, n5, n6⟩ := st2.own (i := i) (d := .lst ds) (by rw [List.getElem?_set_ne (fun z => hij z.symm)]; exact ei)
                  rw [h1] at n1
                  cases n1
                  cases n6 with
                  | lst rl2 =>
                    obtain ⟨g3, st3⟩ := st2.write g2 (by rw [List.getElem?_set_ne (fun z => hij z.symm)]; exact ei) h1 (.lst (rl2.append (.one ry)))
                    refine ⟨_, _, _, m, y', rfl, rfl, l5, ?_, ?_, by rw [el]; exact b1, ey, ?_⟩
                    · have := q1.2.1; unfold line at this; omega
                    · have := q1.2.1; unfold line at this; omega
                    · exact ⟨a, _, y', rfl, rfl, n5, by rw [rl2.length]; exact q1.1, k.nx _ _ _ _ _ g1.ff g3 st3 q1.2.2⟩
                · exact q1.elim
              · exact q1.elim
        · exact q1.elim
  · exact t.elim
end
end DL

end
section
set_option linter.all false
set_option maxRecDepth 100000
set_option autoImplicit false
/-! The data layer: a tuple from its end to its beginning. -/
namespace DL
open PySem L2 PySem.Spec PyProof.Rows HT
section
variable {prog : Program} {w : World} {A : Around} {E : Value → Shared → Prop} {s : Shared}
theorem back_places (n : Nat) : Builtin.Slice.slicePlaces ((n : Int) - 1) (-1) (-1) = n := by
  unfold Builtin.Slice.slicePlaces
  rw [if_neg (by decide)]
  by_cases h : (n : Int) - 1 > -1
  · rw [if_pos h]
    show ((((n : Int) - 1 - -1 - 1) / 1 + 1)).toNat = n
    rw [Int.ediv_one]
    omega
  · rw [if_neg h]; show (0 : Nat) = n; omega
theorem back_applied {sl : Addr} {t : Tok} {n : Nat} {Q : Int × Int × Nat → Shared → Prop} (hs : s.heap.IsSliceOf sl .none .none (.int (-1) t)) (h : Q ((n : Int) - 1, -1, n) s) : wpAny (model prog w) A (Builtin.Slice.sliceApplied (.ref sl) (pure (n : Int))) Q E s := by
  obtain ⟨os, at_sl, _, parts⟩ := hs
  unfold Builtin.Slice.sliceApplied Builtin.Slice.sliceFields
  refine wpAny_bind (wpAny_bind (wpAny_field at_sl parts (x := .none) rfl (wpAny_bind (wpAny_field at_sl parts (x := .none) rfl (wpAny_bind (wpAny_field at_sl parts (x := .int (-1) t) rfl (wpAny_pure ?_)))))))
  refine wpAny_bind (slicePart_int ?_)
  show wpAny _ _ (if ((-1 : Int) == 0) = true then _ else _) _ _ s
  rw [if_neg (by decide)]
  refine wpAny_bind (slicePart_none (wpAny_bind (slicePart_none (wpAny_bind (wpAny_pure ?_)))))
  show wpAny _ _ (pure ((n : Int) - 1, (-1 : Int), Builtin.Slice.slicePlaces ((n : Int) - 1) (-1) (-1))) _ _ s
  rw [back_places]
  exact wpAny_pure h
theorem back_pick (xs : Array Value) : ((List.range xs.size).filterMap fun (m : Nat) => xs[((xs.size : Int) - 1 + (m : Int) * -1).toNat]?).toArray = xs.toList.reverse.toArray := by
  congr 1
  apply List.ext_getElem?
  intro j
  have full : ∀ (l : List Nat), (∀ m ∈ l, m < xs.size) → (l.filterMap fun (m : Nat) => xs[((xs.size : Int) - 1 + (m : Int) * -1).toNat]?) = l.map fun m => xs.toList.reverse.getD m .none := by
    intro l
    induction l with
    | nil => intro _; rfl
    | cons a l ih =>
      intro hl
      have ha := hl a List.mem_cons_self
      have e : ((xs.size : Int) - 1 + (a : Int) * -1).toNat = xs.size - 1 - a := by omega
      have lt : xs.size - 1 - a < xs.size := by omega
      rw [List.filterMap_cons, e, Array.getElem?_eq_getElem lt, List.map_cons, ih fun m hm => hl m (List.mem_cons_of_mem _ hm)]
      congr 1
      rw [List.getD_eq_getElem?_getD, List.getElem?_reverse (by simpa using ha)]
      simp only [Array.length_toList]
      rw [Array.getElem?_toList, Array.getElem?_eq_getElem lt]
      rfl
  rw [full _ fun m hm => List.mem_range.mp hm, List.getElem?_map]
  by_cases hj : j < xs.size
  · rw [List.getElem?_range hj]
    have hl : j < xs.toList.reverse.length := by simpa using hj
    rw [List.getElem?_eq_getElem hl]
    show some (xs.toList.reverse.getD j .none) = _
    rw [List.getD_eq_getElem?_getD, List.getElem?_eq_getElem hl]
    rfl
  · rw [List.getElem?_eq_none (by simpa using hj), List.getElem?_eq_none (by simpa using hj)]
    rfl
theorem back_item {t sl : Addr} {u : Tok} {items : Array Value} {Q : Value → Shared → Prop} (ht : IsTup s.heap t items) (hs : s.heap.IsSliceOf sl .none .none (.int (-1) u))
    (h : Q (.ref s.heap.objs.size) { s with heap := s.heap.push { cls := .type "tuple", data := .seq items.toList.reverse.toArray } }) (fits : items.size ≤ sizeLine) : wpAny (model prog w) A (getItem (.ref t) (.ref sl)) Q E s := by
  have is_slice : s.TypeIs (.ref sl) "slice" := let ⟨os, a, b, _⟩ := hs; ⟨os, a, b⟩
  have room : sizeOk (.seq items.toList.reverse.toArray) := by
    show items.toList.reverse.toArray.size ≤ sizeLine
    rw [List.size_toArray, List.length_reverse, Array.length_toList]
    exact fits
  unfold getItem
  try with_reducible refine wpAny_holding ?_
  first | refine wpAny_bind (wpAny_pure ?_) | skip
  refine wpAny_bind (wpAny_sequenceKey ht.typeIs (by decide) (wpAny_bind (wpAny_callSpecial?_slot (name := Str.ofString "__getitem__") ht.typeIs PyProof.Rows.slot_tuple_getitem
    (wpAny_call_entry PyProof.Rows.slot_tuple_getitem ht.typeIs entry_tuple_getitem ?_ (args_tuple_getitem _ _)))))
  show wpAny _ _ (Builtin.Tuple.tupleItemsOf (.ref t) >>= _) _ _ s
  refine wpAny_bind (tupleItemsOf_ ht (wpAny_bind (wpAny_typeOf is_slice ?_)))
  rw [if_pos (by decide)]
  refine wpAny_bind (back_applied hs ?_)
  have other : ¬ (((items.size : Int) - 1 == 0 && (-1 : Int) == 1 && items.size == items.size) = true) := by
    rw [show ((-1 : Int) == 1) = false from rfl, Bool.and_false, Bool.false_and]
    exact Bool.false_ne_true
  show wpAny _ _ (if ((items.size : Int) - 1 == 0 && (-1 : Int) == 1 && items.size == items.size) = true then _ else _) _ _ s
  rw [if_neg other, back_pick]
  first
    | exact wpAny_bind (m := Builtin.Tuple.tupleExact _) (wpAny_newObj_type (wpAny_pure ⟨_, rfl, wpAny_pure h⟩) room)
    | exact wpAny_bind (m := Builtin.Tuple.tupleExact _) (wpAny_newObj_type (wpAny_bind (wpAny_pure (wpAny_pure ⟨_, rfl, wpAny_pure h⟩))) room)
    | exact wpAny_bind (wpAny_bind (m := Builtin.Tuple.tupleExact _) (wpAny_newObj_type (wpAny_pure (wpAny_pure ⟨_, rfl, wpAny_pure h⟩)) room))
    | exact wpAny_bind (wpAny_bind (m := Builtin.Tuple.tupleExact _) (wpAny_newObj_type (wpAny_pure ⟨_, rfl, wpAny_pure h⟩) room))
end
section
variable {X : Cx} {a : Expr} {Ta : TE Hp}
theorem pe_revT {te : L2.TE} {k : Nat} {p1 p2 p3 pos : Pos} (he : PE X a te) :
    PE X (.Subscript a (.Slice none none (some (.UnaryOp .USub (.Constant (.int 1) k p1) p2)) p3) pos) (fun σ H Q => te σ H fun x H1 => ∃ b xs, x = .ref b ∧ H1 b = some (.tup xs) ∧ ∀ p, H1 p = none → Q (.ref p) (upd H1 p (.tup xs.reverse))) := by
  have minus : PO X (some (.UnaryOp .USub (.Constant (.int 1) k p1) p2)) (tPart (tUn (rU fun i => .int (-i)) (tC (.int 1)))) := po_some (pe_un un_neg pe_int)
  refine ⟨fun pins s σ H Q I h => Subscript_ (thn (he.run pins s σ H _ I h) fun v s1 ⟨x, H1, I1, r1, q1⟩ => ?_)⟩
  obtain ⟨b, xs, rfl, hb, q⟩ := q1
  obtain rfl : v = Value.ref b := r1
  refine wpAny_Slice (thn (po_none.run pins s1 σ H1 (fun o G => o = none ∧ G = H1) I1 ⟨rfl, rfl⟩) ?_)
  rintro vl s2 ⟨_, _, I2, pl, rfl, rfl⟩
  refine thn (po_none.run pins s2 σ _ (fun o G => o = none ∧ G = _) I2 ⟨rfl, rfl⟩) ?_
  rintro vu s3 ⟨_, G3, I3, pu, rfl, e3⟩
  subst e3
  refine thn (minus.run pins s3 σ G3 (fun o G => o = some (-1) ∧ G = G3) I3 ⟨1, rfl, -1, rfl, rfl, rfl⟩) ?_
  rintro vs s4 ⟨_, G4, I4, ps, rfl, e4⟩
  subst e4
  cases pl
  cases pu
  cases ps with
  | int _ tk =>
    have I5 : Inv X pins σ G4 { s4 with heap := s4.heap.push { cls := .type "slice", data := .fields #[.none, .none, .int (-1) tk] } } := I4.kept (t' := s4.toks) fun c o z => Heap.get?_push_of_some _ z
    obtain ⟨its, r, ht, hz⟩ := I5.tuple (.inl (.inl hb))
    have len := r.length
    refine tail_any (ops := [.ref b, .ref s4.heap.objs.size]) ht.typeIs (PyProof.Rows.slot_tuple_getitem.lookup) (back_item ht (Heap.IsSliceOf.new _ _ _ _) ?_ (by rw [List.size_toArray]; omega)) (by with_unfolding_all rfl)
    refine ⟨.ref _, _, I5.laid (t' := s4.toks) (o := .tup xs.reverse) (fun c o z => Heap.get?_push_of_some _ z) (Nat.le_refl _) ?_, rfl, q _ (I5.hok.fresh (Nat.le_refl _))⟩
    exact ⟨by rw [List.length_reverse]; omega, _, r.reverse, IsTup.new _ _⟩
/-- t[::-1] -/
theorem de_revT {k : Nat} {p1 p2 p3 pos : Pos} (ha : DB X a Ta) : DE X (.Subscript a (.Slice none none (some (.UnaryOp .USub (.Constant (.int 1) k p1) p2)) p3) pos) (eRevT Ta) :=
  pe_weak (pe_revT ha) fun σ H Qv ⟨B, F, S, env, Q, st, t, k⟩ => by
  refine ⟨B, F, S, env, _, st, t, fun d S1 F1 H1 v g1 r1 q1 => ?_⟩
  cases d with
  | tup xs =>
    obtain ⟨a, vs, rfl, q, rl⟩ := r1.tup g1.ok
    rcases r1 with r1 | ⟨a', o, e, hs, hh, r⟩
    · cases r1 with
      | tup q2 rl2 =>
        refine ⟨_, _, rfl, g1.ok.fh _ _ q2, fun p hp => ?_⟩
        obtain ⟨g2, r2⟩ := rep_new g1.ok hp (reverse_rep rl2)
        exact k _ S1 _ _ _ (g1.trans g2) r2 q1
    · cases r
  | _ => exact q1.elim
end
end DL

end
section
set_option autoImplicit false
set_option linter.all false
set_option maxRecDepth 100000
/-! The data layer, plain part: readings as programs. -/
namespace DL
abbrev XE := Env → Option D
abbrev XA := Env → Option (List D)
abbrev XT := Env → Option Bool
inductive XR where
  | nx (e : Env) | rt (d : D) | bk (e : Env) | ct (e : Env)
abbrev XS := Env → Option XR
section
variable {S : Type}
def SimE (T : TE S) (x : XE) : Prop := ∀ env s Q d, x env = some d → Q d s → T env s Q
def SimA (T : TA S) (x : XA) : Prop := ∀ env s Q d, x env = some d → Q d s → T env s Q
def SimT (T : TT S) (x : XT) : Prop := ∀ env s Q d, x env = some d → Q d s → T env s Q
def SimI (T : TI S) (x : XA) : Prop := ∀ env s Q d, x env = some d → Q d s → T env s Q
def SimO (T : TO S) (x : Env → Option (Option Int)) : Prop := ∀ env s Q d, x env = some d → Q d s → T env s Q
def goes (K : KE S) (s : S) : XR → Prop
  | .nx e => K.nx e s
  | .rt d => K.rt d s
  | .bk e => K.bk e s
  | .ct e => K.ct e s
def SimS (T : TS S) (x : XS) : Prop := ∀ K env s r, x env = some r → goes K s r → T K env s
def SimF (f : FS S) (x : List D → Option D) : Prop := ∀ ds s Q ex d, x ds = some d → Q d s → f ds s Q ex
def Sim2 (f : Op2) (x : D → D → Option D) : Prop := ∀ a b k d, x a b = some d → k d → f a b k
def Sim1 (f : Op1) (x : D → Option D) : Prop := ∀ a k d, x a = some d → k d → f a k
def SimN (f : OpN) (x : List D → Option D) : Prop := ∀ a k d, x a = some d → k d → f a k
/-! expressions -/
def xVar (i : Nat) : XE := fun env => match env[i]? with
  | some (.val d) => some d
  | _ => none
theorem s_var (i : Nat) : SimE (S := S) (eVar i) (xVar i) := fun env s Q d h q => by
  unfold xVar at h; unfold eVar
  split at h
  · cases h; simpa [*] using q
  · cases h
def xBor (i : Nat) : XE := fun env => match env[i]? with
  | some (.val d) => some d
  | some (.own d) => some d
  | _ => none
theorem s_bor (i : Nat) : SimE (S := S) (eBor i) (xBor i) := fun env s Q d h q => by
  unfold xBor at h; unfold eBor
  split at h
  · cases h; simpa [*] using q
  · cases h; simpa [*] using q
  · cases h
def xC (d : D) : XE := fun _ => some d
theorem s_c (d : D) : SimE (S := S) (eC d) (xC d) := fun env s Q d' h q => by cases h; exact q
def xBin (f : D → D → Option D) (a b : XE) : XE := fun env => match a env with
  | some x => match b env with
    | some y => f x y
    | none => none
  | none => none
theorem s_bin {f : Op2} {xf : D → D → Option D} {a b : TE S} {xa xb : XE} (hf : Sim2 f xf) (ha : SimE a xa) (hb : SimE b xb) : SimE (eBin f a b) (xBin xf xa xb) := fun env s Q d h q => by
  unfold xBin at h
  split at h
  · rename_i x ex
    split at h
    · rename_i y ey
      exact ha _ _ _ _ ex (hb _ _ _ _ ey (hf _ _ _ _ h q))
    · cases h
  · cases h
def xUn (f : D → Option D) (a : XE) : XE := fun env => match a env with
  | some x => f x
  | none => none
theorem s_un {f : Op1} {xf : D → Option D} {a : TE S} {xa : XE} (hf : Sim1 f xf) (ha : SimE a xa) : SimE (eUn f a) (xUn xf xa) := fun env s Q d h q => by
  unfold xUn at h
  split at h
  · rename_i x ex; exact ha _ _ _ _ ex (hf _ _ _ h q)
  · cases h
def xNil : XA := fun _ => some []
theorem s_nil : SimA (S := S) aNil xNil := fun env s Q d h q => by cases h; exact q
def xCons (a : XE) (r : XA) : XA := fun env => match a env with
  | some x => match r env with
    | some xs => some (x :: xs)
    | none => none
  | none => none
theorem s_cons {a : TE S} {r : TA S} {xa : XE} {xr : XA} (ha : SimE a xa) (hr : SimA r xr) : SimA (aCons a r) (xCons xa xr) := fun env s Q d h q => by
  unfold xCons at h
  split at h
  · rename_i x ex
    split at h
    · rename_i xs es
      cases h
      exact ha _ _ _ _ ex (hr _ _ _ _ es q)
    · cases h
  · cases h
def xApp (a r : XA) : XA := fun env => match a env with
  | some x => match r env with
    | some xs => some (x ++ xs)
    | none => none
  | none => none
theorem s_app {a r : TA S} {xa xr : XA} (ha : SimA a xa) (hr : SimA r xr) : SimA (aApp a r) (xApp xa xr) := fun env s Q d h q => by
  unfold xApp at h
  split at h
  · rename_i x ex
    split at h
    · rename_i xs es
      cases h
      exact ha _ _ _ _ ex (hr _ _ _ _ es q)
    · cases h
  · cases h
def xFn (f : List D → Option D) (a : XA) : XE := fun env => match a env with
  | some x => f x
  | none => none
theorem s_fn {f : OpN} {xf : List D → Option D} {a : TA S} {xa : XA} (hf : SimN f xf) (ha : SimA a xa) : SimE (eFn f a) (xFn xf xa) := fun env s Q d h q => by
  unfold xFn at h
  split at h
  · rename_i x ex; exact ha _ _ _ _ ex (hf _ _ _ h q)
  · cases h
theorem s_call {f : FS S} {ex : D → S → Prop} {xf : List D → Option D} {a : TA S} {xa : XA} (hf : SimF f xf) (ha : SimA a xa) : SimE (eCall f ex a) (xFn xf xa) := fun env s Q d h q => by
  unfold xFn at h
  split at h
  · rename_i x e; exact ha _ _ _ _ e (hf _ _ _ _ _ h q)
  · cases h
theorem s_callK {f : FS S} {ex : D → S → Prop} {g : List D → List D} {xf : List D → Option D} {a : TA S} {xa : XA} (hf : SimF f xf) (ha : SimA a xa) : SimE (eCallK f ex g a) (xFn (fun ds => xf (g ds)) xa) := fun env s Q d h q => by
  unfold xFn at h
  split at h
  · rename_i x e; exact ha _ _ _ _ e (hf _ _ _ _ _ h q)
  · cases h
def xTup (a : XA) : XE := fun env => match a env with
  | some xs => if xs.length ≤ line then some (.tup xs) else none
  | none => none
theorem s_tup {a : TA S} {xa : XA} (ha : SimA a xa) : SimE (eTup a) (xTup xa) := fun env s Q d h q => by
  unfold xTup at h
  split at h
  · rename_i x e
    split at h
    · rename_i hl; cases h; exact ha _ _ _ _ e ⟨hl, q⟩
    · cases h
  · cases h
def xLst (a : XA) : XE := fun env => match a env with
  | some xs => if xs.length ≤ line then some (.lst xs) else none
  | none => none
theorem s_lst {a : TA S} {xa : XA} (ha : SimA a xa) : SimE (eLst a) (xLst xa) := fun env s Q d h q => by
  unfold xLst at h
  split at h
  · rename_i x e
    split at h
    · rename_i hl; cases h; exact ha _ _ _ _ e ⟨hl, q⟩
    · cases h
  · cases h
def xIf (t : XT) (a b : XE) : XE := fun env => match t env with
  | some true => a env
  | some false => b env
  | none => none
theorem s_if {t : TT S} {a b : TE S} {xt : XT} {xa xb : XE} (ht : SimT t xt) (ha : SimE a xa) (hb : SimE b xb) : SimE (eIf t a b) (xIf xt xa xb) := fun env s Q d h q => by
  unfold xIf at h
  split at h
  · rename_i e; exact ht _ _ _ _ e (by rw [if_pos rfl]; exact ha _ _ _ _ h q)
  · rename_i e; exact ht _ _ _ _ e (by rw [if_neg Bool.false_ne_true]; exact hb _ _ _ _ h q)
  · cases h
def xChain (f g : D → D → Option D) (a b c : XE) : XE := fun env => match a env with
  | some x => match b env with
    | some y => match f x y with
      | some (.bl true) => match c env with
        | some w => g y w
        | none => none
      | some (.bl false) => some (.bl false)
      | _ => none
    | none => none
  | none => none
theorem s_chain {f g : Op2} {xf xg : D → D → Option D} {a b c : TE S} {xa xb xc : XE} (hf : Sim2 f xf) (hg : Sim2 g xg) (ha : SimE a xa) (hb : SimE b xb) (hc : SimE c xc) : SimE (eChain f g a b c) (xChain xf xg xa xb xc) := fun env s Q d h q => by
  unfold xChain at h
  split at h
  · rename_i x ex
    split at h
    · rename_i y ey
      refine ha _ _ _ _ ex (hb _ _ _ _ ey ?_)
      split at h
      · rename_i e
        refine hf _ _ _ _ e ?_
        split at h
        · rename_i w ew; exact hc _ _ _ _ ew (hg _ _ _ _ h q)
        · cases h
      · rename_i e; cases h; exact hf _ _ _ _ e q
      · cases h
    · cases h
  · cases h
/-! tests -/
def xTruth : D → Option Bool
  | .non => some false
  | .bl b => some b
  | .int i => some (i != 0)
  | .tup xs => some (!xs.isEmpty)
  | .lst xs => some (!xs.isEmpty)
  | .dK kvs => some (!kvs.isEmpty)
  | _ => none
theorem truth_sim {d : D} {b : Bool} {k : Bool → Prop} (h : xTruth d = some b) (q : k b) : truth d k := by
  cases d <;> simp only [xTruth, Option.some.injEq, reduceCtorEq] at h <;> subst h <;> exact q
def xOf (a : XE) : XT := fun env => match a env with
  | some x => xTruth x
  | none => none
theorem s_of {a : TE S} {xa : XE} (ha : SimE a xa) : SimT (tOf a) (xOf xa) := fun env s Q d h q => by
  unfold xOf at h
  split at h
  · rename_i x e; exact ha _ _ _ _ e (truth_sim h q)
  · cases h
def xCmp (f : D → D → Option D) (a b : XE) : XT := fun env => match xBin f a b env with
  | some (.bl c) => some c
  | _ => none
theorem s_cmp {f : Op2} {xf : D → D → Option D} {a b : TE S} {xa xb : XE} (hf : Sim2 f xf) (ha : SimE a xa) (hb : SimE b xb) : SimT (tCmp f a b) (xCmp xf xa xb) := fun env s Q d h q => by
  unfold xCmp at h
  split at h
  · rename_i c e
    cases h
    exact s_bin hf ha hb env s (fun z s2 => match z with
      | .bl c => Q c s2
      | _ => False) _ e q
  · cases h
def xtChain (f g : D → D → Option D) (a b c : XE) : XT := fun env => match xChain f g a b c env with
  | some (.bl k) => some k
  | _ => none
theorem s_tchain {f g : Op2} {xf xg : D → D → Option D} {a b c : TE S} {xa xb xc : XE} (hf : Sim2 f xf) (hg : Sim2 g xg) (ha : SimE a xa) (hb : SimE b xb) (hc : SimE c xc) : SimT (tChain f g a b c) (xtChain xf xg xa xb xc) := fun env s Q d h q => by
  unfold xtChain xChain at h
  split at h
  · rename_i k e
    cases h
    split at e
    · rename_i x ex
      split at e
      · rename_i y ey
        refine ha _ _ _ _ ex (hb _ _ _ _ ey ?_)
        split at e
        · rename_i e1
          refine hf _ _ _ _ e1 ?_
          split at e
          · rename_i w ew; exact hc _ _ _ _ ew (hg _ _ _ _ e q)
          · cases e
        · rename_i e1; cases e; exact hf _ _ _ _ e1 q
        · cases e
      · cases e
    · cases e
  · cases h
def xeNot (a : XE) : XE := fun env => match xOf a env with
  | some b => some (.bl (!b))
  | none => none
theorem s_enot {a : TE S} {xa : XE} (ha : SimE a xa) : SimE (eNot a) (xeNot xa) := fun env s Q d h q => by
  unfold xeNot at h
  split at h
  · rename_i b e; cases h; exact s_of ha env s _ _ e q
  · cases h
def xeAnd (a b : XE) : XE := fun env => match a env with
  | some x => match xTruth x with
    | some true => b env
    | some false => some x
    | none => none
  | none => none
theorem s_eand {a b : TE S} {xa xb : XE} (ha : SimE a xa) (hb : SimE b xb) : SimE (eAnd a b) (xeAnd xa xb) := fun env s Q d h q => by
  unfold xeAnd at h
  split at h
  · rename_i x ex
    split at h
    · rename_i e; exact ha _ _ _ _ ex (truth_sim e (by rw [if_pos rfl]; exact hb _ _ _ _ h q))
    · rename_i e; cases h; exact ha _ _ _ _ ex (truth_sim e (by rw [if_neg Bool.false_ne_true]; exact q))
    · cases h
  · cases h
def xeOr (a b : XE) : XE := fun env => match a env with
  | some x => match xTruth x with
    | some false => b env
    | some true => some x
    | none => none
  | none => none
theorem s_eor {a b : TE S} {xa xb : XE} (ha : SimE a xa) (hb : SimE b xb) : SimE (eOr a b) (xeOr xa xb) := fun env s Q d h q => by
  unfold xeOr at h
  split at h
  · rename_i x ex
    split at h
    · rename_i e; exact ha _ _ _ _ ex (truth_sim e (by rw [if_neg Bool.false_ne_true]; exact hb _ _ _ _ h q))
    · rename_i e; cases h; exact ha _ _ _ _ ex (truth_sim e (by rw [if_pos rfl]; exact q))
    · cases h
  · cases h
def xNot (t : XT) : XT := fun env => match t env with
  | some b => some (!b)
  | none => none
theorem s_not {t : TT S} {xt : XT} (ht : SimT t xt) : SimT (tNot t) (xNot xt) := fun env s Q d h q => by
  unfold xNot at h
  split at h
  · rename_i e; cases h; exact ht _ _ _ _ e q
  · cases h
def xAnd (t u : XT) : XT := fun env => match t env with
  | some true => u env
  | some false => some false
  | none => none
theorem s_and {t u : TT S} {xt xu : XT} (ht : SimT t xt) (hu : SimT u xu) : SimT (tAnd t u) (xAnd xt xu) := fun env s Q d h q => by
  unfold xAnd at h
  split at h
  · rename_i e; exact ht _ _ _ _ e (by rw [if_pos rfl]; exact hu _ _ _ _ h q)
  · rename_i e; cases h; exact ht _ _ _ _ e (by rw [if_neg Bool.false_ne_true]; exact q)
  · cases h
def xOr (t u : XT) : XT := fun env => match t env with
  | some false => u env
  | some true => some true
  | none => none
theorem s_or {t u : TT S} {xt xu : XT} (ht : SimT t xt) (hu : SimT u xu) : SimT (tOr t u) (xOr xt xu) := fun env s Q d h q => by
  unfold xOr at h
  split at h
  · rename_i e; exact ht _ _ _ _ e (by rw [if_neg Bool.false_ne_true]; exact hu _ _ _ _ h q)
  · rename_i e; cases h; exact ht _ _ _ _ e (by rw [if_pos rfl]; exact q)
  · cases h
def xYes : XT := fun _ => some true
theorem s_yes : SimT (S := S) tYes xYes := fun env s Q d h q => by cases h; exact q
end
end DL

end
section
set_option autoImplicit false
set_option linter.all false
set_option maxRecDepth 100000
/-! The data layer, plain part: readings as programs: statements, loops, comprehensions. -/
namespace DL
section
variable {S : Type}
def xsNil : XS := fun env => some (.nx env)
theorem s_snil : SimS (S := S) sNil xsNil := fun K env s r h q => by cases h; exact q
def xSeq (a b : XS) : XS := fun env => match a env with
  | some (.nx e) => b e
  | r => r
theorem s_seq {t u : TS S} {xt xu : XS} (ht : SimS t xt) (hu : SimS u xu) : SimS (sSeq t u) (xSeq xt xu) := fun K env s r h q => by
  unfold xSeq at h
  cases e : xt env with
  | none => rw [e] at h; cases h
  | some r1 =>
    rw [e] at h
    refine ht _ env s r1 e ?_
    cases r1 with
    | nx e1 => exact hu K e1 s r h q
    | rt d => cases h; exact q
    | bk e1 => cases h; exact q
    | ct e1 => cases h; exact q
def xSet (i : Nat) (a : XE) : XS := fun env => match a env with
  | some d => some (.nx (env.set i (.val d)))
  | none => none
theorem s_set {i : Nat} {a : TE S} {xa : XE} (ha : SimE a xa) : SimS (sSet i a) (xSet i xa) := fun K env s r h q => by
  unfold xSet at h
  split at h
  · rename_i d e; cases h; exact ha _ _ _ _ e q
  · cases h
def xOwn (i : Nat) (a : XE) : XS := fun env => match a env with
  | some d => some (.nx (env.set i (.own d)))
  | none => none
theorem s_own {i : Nat} {a : TE S} {xa : XE} (ha : SimE a xa) : SimS (sOwn i a) (xOwn i xa) := fun K env s r h q => by
  unfold xOwn at h
  split at h
  · rename_i d e; cases h; exact ha _ _ _ _ e q
  · cases h
def xFrz (i : Nat) : XS := fun env => match env[i]? with
  | some (.own d) => some (.nx (env.set i (.val d)))
  | _ => none
theorem s_frz {i : Nat} : SimS (S := S) (sFrz i) (xFrz i) := fun K env s r h q => by
  unfold xFrz at h; unfold sFrz
  split at h
  · rename_i d e; cases h; (try rw [e]); exact q
  · cases h
def xUnp (p : Pat) (a : XE) : XS := fun env => match a env with
  | some d => match p.put d env with
    | some env' => some (.nx env')
    | none => none
  | none => none
theorem s_unp {p : Pat} {a : TE S} {xa : XE} (ha : SimE a xa) : SimS (sUnp p a) (xUnp p xa) := fun K env s r h q => by
  unfold xUnp at h
  split at h
  · rename_i d e
    split at h
    · rename_i env' e'; cases h; exact ha _ _ _ _ e (by rw [e']; exact q)
    · cases h
  · cases h
def xRet (a : XE) : XS := fun env => match a env with
  | some d => some (.rt d)
  | none => none
theorem s_ret {a : TE S} {xa : XE} (ha : SimE a xa) : SimS (sRet a) (xRet xa) := fun K env s r h q => by
  unfold xRet at h
  split at h
  · rename_i d e; cases h; exact ha _ _ _ _ e q
  · cases h
def xRetN : XS := fun env => some (.rt .non)
theorem s_retN : SimS (S := S) sRetN xRetN := fun K env s r h q => by cases h; exact q
def xDrop (a : XE) : XS := fun env => match a env with
  | some _ => some (.nx env)
  | none => none
theorem s_drop {a : TE S} {xa : XE} (ha : SimE a xa) : SimS (sDrop a) (xDrop xa) := fun K env s r h q => by
  unfold xDrop at h
  split at h
  · rename_i d e; cases h; exact ha _ _ _ _ e q
  · cases h
def xsIf (t : XT) (a b : XS) : XS := fun env => match t env with
  | some true => a env
  | some false => b env
  | none => none
theorem s_sif {t : TT S} {a b : TS S} {xt : XT} {xa xb : XS} (ht : SimT t xt) (ha : SimS a xa) (hb : SimS b xb) : SimS (sIf t a b) (xsIf xt xa xb) := fun K env s r h q => by
  unfold xsIf at h
  split at h
  · rename_i e; exact ht _ _ _ _ e (by rw [if_pos rfl]; exact ha _ _ _ _ h q)
  · rename_i e; exact ht _ _ _ _ e (by rw [if_neg Bool.false_ne_true]; exact hb _ _ _ _ h q)
  · cases h
def xNever : XS := fun _ => none
theorem s_never : SimS (S := S) sNever xNever := fun K env s r h q => by cases h
def xBrk : XS := fun env => some (.bk env)
theorem s_brk : SimS (S := S) sBrk xBrk := fun K env s r h q => by cases h; exact q
def xCnt : XS := fun env => some (.ct env)
theorem s_cnt : SimS (S := S) sCnt xCnt := fun K env s r h q => by cases h; exact q
def xAug (i : Nat) (f : D → D → Option D) (a : XE) : XS := fun env => match env[i]? with
  | some (.val x) => match a env with
    | some y => match f x y with
      | some z => some (.nx (env.set i (.val z)))
      | none => none
    | none => none
  | _ => none
theorem s_aug {i : Nat} {f : Op2} {xf : D → D → Option D} {a : TE S} {xa : XE} (hf : Sim2 f xf) (ha : SimE a xa) : SimS (sAug i f a) (xAug i xf xa) := fun K env s r h q => by
  unfold xAug at h; unfold sAug
  split at h
  · rename_i x e
    try rw [e]
    split at h
    · rename_i y ey
      split at h
      · rename_i z ez; cases h; exact ha _ _ _ _ ey (hf _ _ _ _ ez q)
      · cases h
    · cases h
  · cases h
def xApd (i : Nat) (a : XE) : XS := fun env => match env[i]? with
  | some (.own (.lst ds)) => match a env with
    | some d => if ds.length < line then some (.nx (env.set i (.own (.lst (ds ++ [d]))))) else none
    | none => none
  | _ => none
theorem s_apd {i : Nat} {a : TE S} {xa : XE} (ha : SimE a xa) : SimS (sApp i a) (xApd i xa) := fun K env s r h q => by
  unfold xApd at h; unfold sApp
  split at h
  · rename_i ds e
    try rw [e]
    split at h
    · rename_i d ed
      split at h
      · rename_i hl; cases h; exact ha _ _ _ _ ed ⟨hl, q⟩
      · cases h
    · cases h
  · cases h
def xExt (i : Nat) (a : XE) : XS := fun env => match env[i]? with
  | some (.own (.lst ds)) => match a env with
    | some (.lst es) => if ds.length + es.length ≤ line then some (.nx (env.set i (.own (.lst (ds ++ es))))) else none
    | _ => none
  | _ => none
theorem s_ext {i : Nat} {a : TE S} {xa : XE} (ha : SimE a xa) : SimS (sExt i a) (xExt i xa) := fun K env s r h q => by
  unfold xExt at h; unfold sExt
  split at h
  · rename_i ds e
    try rw [e]
    split at h
    · rename_i es ed
      split at h
      · rename_i hl; cases h; exact ha _ _ _ _ ed ⟨hl, q⟩
      · cases h
    · cases h
  · cases h
/-! several at once -/
def xpNil : Env → Option (List Sl) := fun _ => some []
def xpVal (a : XE) (r : Env → Option (List Sl)) : Env → Option (List Sl) := fun env => match a env with
  | some d => match r env with
    | some l => some (.val d :: l)
    | none => none
  | none => none
def xpOwn (a : XE) (r : Env → Option (List Sl)) : Env → Option (List Sl) := fun env => match a env with
  | some d => match r env with
    | some l => some (.own d :: l)
    | none => none
  | none => none
def SimP (p : Par S) (x : Env → Option (List Sl)) : Prop := ∀ env s Q l, x env = some l → Q l s → p.run env s Q
theorem s_pnil : SimP (S := S) .nil xpNil := fun env s Q l h q => by cases h; exact q
theorem s_pval {i : Nat} {a : TE S} {xa : XE} {r : Par S} {xr : Env → Option (List Sl)} (ha : SimE a xa) (hr : SimP r xr) : SimP (.val i a r) (xpVal xa xr) := fun env s Q l h q => by
  unfold xpVal at h
  split at h
  · rename_i d e
    split at h
    · rename_i l' e'; cases h; exact ha _ _ _ _ e (hr _ _ _ _ e' q)
    · cases h
  · cases h
theorem s_pown {i : Nat} {a : TE S} {xa : XE} {r : Par S} {xr : Env → Option (List Sl)} (ha : SimE a xa) (hr : SimP r xr) : SimP (.own i a r) (xpOwn xa xr) := fun env s Q l h q => by
  unfold xpOwn at h
  split at h
  · rename_i d e
    split at h
    · rename_i l' e'; cases h; exact ha _ _ _ _ e (hr _ _ _ _ e' q)
    · cases h
  · cases h
def xPar (is : List Nat) (x : Env → Option (List Sl)) : XS := fun env => match x env with
  | some l => some (.nx (putSl is l env))
  | none => none
theorem s_par {p : Par S} {x : Env → Option (List Sl)} {is : List Nat} (hi : p.idx = is) (hp : SimP p x) : SimS (sPar p) (xPar is x) := fun K env s r h q => by
  unfold xPar at h
  split at h
  · rename_i l e; cases h; exact hp _ _ _ _ e (by rw [hi]; exact q)
  · cases h
/-! loops -/
def xItems : D → Option (List D)
  | .tup xs => some xs
  | .lst xs => some xs
  | _ => none
theorem items_sim {d : D} {l : List D} {k : List D → Prop} (h : xItems d = some l) (q : k l) : items d k := by
  cases d <;> simp only [xItems, Option.some.injEq, reduceCtorEq] at h <;> subst h <;> exact q
def xiOf (a : XE) : XA := fun env => match a env with
  | some x => xItems x
  | none => none
theorem s_iof {a : TE S} {xa : XE} (ha : SimE a xa) : SimI (iOf a) (xiOf xa) := fun env s Q d h q => by
  unfold xiOf at h
  split at h
  · rename_i x e; exact ha _ _ _ _ e (items_sim h q)
  · cases h
def xiN (f : List D → Option (List D)) (a : XA) : XA := fun env => match a env with
  | some x => f x
  | none => none
def xRng : List D → Option (List D)
  | [.int hi] => if -(2 ^ 62) ≤ hi ∧ hi < 2 ^ 62 then some (intsFrom 0 hi.toNat) else none
  | [.int lo, .int hi] => if -(2 ^ 62) ≤ lo ∧ lo < 2 ^ 62 ∧ -(2 ^ 62) ≤ hi ∧ hi < 2 ^ 62 then some (intsFrom lo (hi - lo).toNat) else none
  | [.int hi, .int lo, .int c] => if c = -1 ∧ -(2 ^ 62) ≤ lo ∧ lo < 2 ^ 62 ∧ -(2 ^ 62) ≤ hi ∧ hi < 2 ^ 62 then some (intsDown hi (hi - lo).toNat) else none
  | _ => none
theorem s_rng {a : TA S} {xa : XA} (ha : SimA a xa) : SimI (iRng a) (xiN xRng xa) := fun env s Q d h q => by
  unfold xiN at h
  split at h
  · rename_i x e
    refine ha _ _ _ _ e ?_
    unfold xRng at h
    split at h
    · split at h
      · rename_i hh; cases h; exact ⟨hh.1, hh.2, q⟩
      · cases h
    · split at h
      · rename_i hh; cases h; exact ⟨hh.1, hh.2.1, hh.2.2.1, hh.2.2.2, q⟩
      · cases h
    · split at h
      · rename_i hh; cases h; exact ⟨hh.1, hh.2.1, hh.2.2.1, hh.2.2.2.1, hh.2.2.2.2, q⟩
      · cases h
    · cases h
  · cases h
def xZip : List D → Option (List D)
  | [x, y] => match xItems x, xItems y with
    | some xs, some ys => some (List.zipWith (fun u v => .tup [u, v]) xs ys)
    | _, _ => none
  | [x, y, z] => match xItems x, xItems y, xItems z with
    | some xs, some ys, some zs => some (zip3 xs ys zs)
    | _, _, _ => none
  | _ => none
theorem s_zip {a : TA S} {xa : XA} (ha : SimA a xa) : SimI (iZip a) (xiN xZip xa) := fun env s Q d h q => by
  unfold xiN at h
  split at h
  · rename_i x e
    refine ha _ _ _ _ e ?_
    unfold xZip at h
    split at h
    · split at h
      · rename_i e1 e2; cases h; exact items_sim e1 (items_sim e2 q)
      · cases h
    · split at h
      · rename_i e1 e2 e3; cases h; exact items_sim e1 (items_sim e2 (items_sim e3 q))
      · cases h
    · cases h
  · cases h
def xEnum : List D → Option (List D)
  | [x] => match xItems x with
    | some xs => some (enumF 0 xs)
    | none => none
  | _ => none
theorem s_enum {a : TA S} {xa : XA} (ha : SimA a xa) : SimI (iEnum a) (xiN xEnum xa) := fun env s Q d h q => by
  unfold xiN at h
  split at h
  · rename_i x e
    refine ha _ _ _ _ e ?_
    unfold xEnum at h
    split at h
    · split at h
      · rename_i e1; cases h; exact items_sim e1 q
      · cases h
    · cases h
  · cases h
def xComb : List D → Option (List D)
  | [x, .int r] => match xItems x with
    | some xs => if 0 ≤ r ∧ xs.length ≤ 1000 ∧ r.toNat ≤ 1000 then some ((combs r.toNat xs).map .tup) else none
    | none => none
  | _ => none
theorem s_comb {a : TA S} {xa : XA} (ha : SimA a xa) : SimI (iComb a) (xiN xComb xa) := fun env s Q d h q => by
  unfold xiN at h
  split at h
  · rename_i x e
    refine ha _ _ _ _ e ?_
    unfold xComb at h
    split at h
    · split at h
      · rename_i e1
        split at h
        · rename_i hh; cases h; exact ⟨hh.1, items_sim e1 ⟨hh.2.1, hh.2.2, q⟩⟩
        · cases h
      · cases h
    · cases h
  · cases h
def xForD (p : Pat) (body : XS) : List D → Env → Option XR
  | [], env => some (.nx env)
  | d :: ds, env => match p.put d env with
    | some env' => match body env' with
      | some (.nx e) => xForD p body ds e
      | some (.ct e) => xForD p body ds e
      | some (.bk e) => some (.nx e)
      | some (.rt v) => some (.rt v)
      | none => none
    | none => none
theorem forD_sim {p : Pat} {body : TS S} {xb : XS} (hb : SimS body xb) {K : KE S} : ∀ {ds : List D} {env : Env} {s : S} {r : XR}, xForD p xb ds env = some r → goes K s r → forD p body K ds env s
  | [], env, s, r, h, q => by simp only [xForD, Option.some.injEq] at h; subst h; exact q
  | d :: ds, env, s, r, h, q => by
    unfold xForD at h; unfold forD
    split at h
    · rename_i env' e'
      try rw [e']
      split at h
      · rename_i e1 e2; exact hb _ _ _ _ e2 (forD_sim hb h q)
      · rename_i e1 e2; exact hb _ _ _ _ e2 (forD_sim hb h q)
      · rename_i e1 e2; cases h; exact hb _ _ _ _ e2 q
      · rename_i e1 e2; cases h; exact hb _ _ _ _ e2 q
      · cases h
    · cases h
def xFor (it : XA) (p : Pat) (body : XS) : XS := fun env => match it env with
  | some ds => xForD p body ds env
  | none => none
theorem s_for {it : TI S} {xi : XA} {p : Pat} {body : TS S} {xb : XS} (hi : SimI it xi) (hb : SimS body xb) : SimS (sFor it p body) (xFor xi p xb) := fun K env s r h q => by
  unfold xFor at h
  split at h
  · rename_i ds e; exact hi _ _ _ _ e (forD_sim hb h q)
  · cases h
def xWhileD (t : XT) (body : XS) : Nat → Env → Option XR
  | 0, _ => none
  | n + 1, env => match t env with
    | some true => match body env with
      | some (.nx e) => xWhileD t body n e
      | some (.ct e) => xWhileD t body n e
      | some (.bk e) => some (.nx e)
      | some (.rt v) => some (.rt v)
      | none => none
    | some false => some (.nx env)
    | none => none
theorem whileD_sim {t : TT S} {xt : XT} {body : TS S} {xb : XS} (ht : SimT t xt) (hb : SimS body xb) {K : KE S} : ∀ {n : Nat} {env : Env} {s : S} {r : XR}, xWhileD xt xb n env = some r → goes K s r → whileD t body K n env s
  | 0, env, s, r, h, q => by simp [xWhileD] at h
  | n + 1, env, s, r, h, q => by
    unfold xWhileD at h; unfold whileD
    split at h
    · rename_i e
      refine ht _ _ _ _ e ?_
      rw [if_pos rfl]
      split at h
      · rename_i e1 e2; exact hb _ _ _ _ e2 (whileD_sim ht hb h q)
      · rename_i e1 e2; exact hb _ _ _ _ e2 (whileD_sim ht hb h q)
      · rename_i e1 e2; cases h; exact hb _ _ _ _ e2 q
      · rename_i e1 e2; cases h; exact hb _ _ _ _ e2 q
      · cases h
    · rename_i e; cases h; exact ht _ _ _ _ e (by rw [if_neg Bool.false_ne_true]; exact q)
    · cases h
def xWhile (t : XT) (body : XS) : XS := fun env => xWhileD t body 10000 env
theorem s_while {t : TT S} {xt : XT} {body : TS S} {xb : XS} (ht : SimT t xt) (hb : SimS body xb) : SimS (sWhile t body) (xWhile xt xb) := fun K env s r h q => ⟨10000, whileD_sim ht hb h q⟩
/-! comprehensions -/
def xLcD (p : Pat) (t : XT) (e : XE) (env : Env) : List D → Option (List D)
  | [] => some []
  | d :: ds => match p.put d env with
    | some env' => match t env' with
      | some true => match e env' with
        | some y => match xLcD p t e env ds with
          | some ys => some (y :: ys)
          | none => none
        | none => none
      | some false => xLcD p t e env ds
      | none => none
    | none => none
theorem lcD_sim {p : Pat} {t : TT S} {xt : XT} {e : TE S} {xe : XE} (ht : SimT t xt) (he : SimE e xe) {env : Env} {s : S} {Q : List D → S → Prop} : ∀ {ds ys acc : List D}, xLcD p xt xe env ds = some ys → acc.length + ys.length ≤ line → Q (acc ++ ys) s → lcD p t e env Q ds acc s
  | [], ys, acc, h, l, q => by simp only [xLcD, Option.some.injEq] at h; subst h; simpa [lcD] using q
  | d :: ds, ys, acc, h, l, q => by
    unfold xLcD at h; unfold lcD
    split at h
    · rename_i env' e'
      try rw [e']
      split at h
      · rename_i et
        refine ht _ _ _ _ et ?_
        rw [if_pos rfl]
        split at h
        · rename_i y ey
          split at h
          · rename_i ys' es
            cases h
            rw [List.length_cons] at l
            refine he _ _ _ _ ey ⟨by omega, lcD_sim ht he es (by rw [List.length_append, List.length_singleton]; omega) ?_⟩
            rw [List.append_assoc]; exact q
          · cases h
        · cases h
      · rename_i et
        exact ht _ _ _ _ et (by rw [if_neg Bool.false_ne_true]; exact lcD_sim ht he h l q)
      · cases h
    · cases h
def xLc (it : XA) (p : Pat) (t : XT) (e : XE) (vs : List Nat) : XE := fun env => match it env with
  | some ds => match xLcD p t e (wipeE env vs) ds with
    | some ys => if ys.length ≤ line then some (.lst ys) else none
    | none => none
  | none => none
theorem s_lc {it : TI S} {xi : XA} {p : Pat} {t : TT S} {xt : XT} {e : TE S} {xe : XE} {vs : List Nat} (hi : SimI it xi) (ht : SimT t xt) (he : SimE e xe) : SimE (eLc it p t e vs) (xLc xi p xt xe vs) := fun env s Q d h q => by
  unfold xLc at h
  split at h
  · rename_i ds e1
    split at h
    · rename_i ys e2
      split at h
      · rename_i hl; cases h; exact hi _ _ _ _ e1 (lcD_sim ht he e2 (by simpa using hl) (by simpa using q))
      · cases h
    · cases h
  · cases h
end
end DL

end
section
set_option autoImplicit false
set_option linter.all false
set_option maxRecDepth 100000
/-! The data layer, plain part: readings as programs: the rest. -/
namespace DL
section
variable {S : Type}
def xLc2D (p : Pat) (t : XT) (it1 : XA) (p1 : Pat) (t1 : XT) (e : XE) (vs1 : List Nat) (env : Env) : List D → Option (List D)
  | [] => some []
  | d :: ds => match p.put d env with
    | some env' => match t env' with
      | some true => match it1 env' with
        | some es => match xLcD p1 t1 e (wipeE env' vs1) es with
          | some ys => match xLc2D p t it1 p1 t1 e vs1 env ds with
            | some zs => some (ys ++ zs)
            | none => none
          | none => none
        | none => none
      | some false => xLc2D p t it1 p1 t1 e vs1 env ds
      | none => none
    | none => none
theorem lc2D_sim {p : Pat} {t : TT S} {xt : XT} {it1 : TI S} {xi1 : XA} {p1 : Pat} {t1 : TT S} {xt1 : XT} {e : TE S} {xe : XE} {vs1 : List Nat} (ht : SimT t xt) (hi1 : SimI it1 xi1) (ht1 : SimT t1 xt1) (he : SimE e xe) {env : Env} {s : S} {Q : List D → S → Prop} :
    ∀ {ds ys acc : List D}, xLc2D p xt xi1 p1 xt1 xe vs1 env ds = some ys → acc.length + ys.length ≤ line → Q (acc ++ ys) s → lc2D p t it1 p1 t1 e vs1 env Q ds acc s
  | [], ys, acc, h, l, q => by simp only [xLc2D, Option.some.injEq] at h; subst h; simpa [lc2D] using q
  | d :: ds, ys, acc, h, l, q => by
    unfold xLc2D at h; unfold lc2D
    split at h
    · rename_i env' e'
      try rw [e']
      split at h
      · rename_i et
        refine ht _ _ _ _ et ?_
        rw [if_pos rfl]
        split at h
        · rename_i es ees
          refine hi1 _ _ _ _ ees ?_
          split at h
          · rename_i ys' ey
            split at h
            · rename_i zs ez
              cases h
              rw [List.length_append] at l
              refine lcD_sim ht1 he ey (by omega) (lc2D_sim ht hi1 ht1 he ez (by rw [List.length_append]; omega) ?_)
              rw [List.append_assoc]; exact q
            · cases h
          · cases h
        · cases h
      · rename_i et
        exact ht _ _ _ _ et (by rw [if_neg Bool.false_ne_true]; exact lc2D_sim ht hi1 ht1 he h l q)
      · cases h
    · cases h
def xLc2 (it : XA) (p : Pat) (t : XT) (it1 : XA) (p1 : Pat) (t1 : XT) (e : XE) (vs vs1 : List Nat) : XE := fun env => match it env with
  | some ds => match xLc2D p t it1 p1 t1 e vs1 (wipeE env vs) ds with
    | some ys => if ys.length ≤ line then some (.lst ys) else none
    | none => none
  | none => none
theorem s_lc2 {it it1 : TI S} {xi xi1 : XA} {p p1 : Pat} {t t1 : TT S} {xt xt1 : XT} {e : TE S} {xe : XE} {vs vs1 : List Nat} (hi : SimI it xi) (ht : SimT t xt) (hi1 : SimI it1 xi1) (ht1 : SimT t1 xt1) (he : SimE e xe) : SimE (eLc2 it p t it1 p1 t1 e vs vs1) (xLc2 xi p xt xi1 p1 xt1 xe vs vs1) := fun env s Q d h q => by
  unfold xLc2 at h
  split at h
  · rename_i ds e1
    split at h
    · rename_i ys e2
      split at h
      · rename_i hl; cases h; exact hi _ _ _ _ e1 (lc2D_sim ht hi1 ht1 he e2 (by simpa using hl) (by simpa using q))
      · cases h
    · cases h
  · cases h
def xDcT (p : Pat) (t : XT) (ek ev : XE) (env : Env) : List D → List (List Key × D) → Option (List (List Key × D))
  | [], acc => some acc
  | d :: ds, acc => match p.put d env with
    | some env' => match t env' with
      | some true => match ek env' with
        | some (.tup xs) => match ev env' with
          | some z => match keysOf xs with
            | some q => if acc.length < line then xDcT p t ek ev env ds (putA acc q z) else none
            | none => none
          | none => none
        | _ => none
      | some false => xDcT p t ek ev env ds acc
      | none => none
    | none => none
theorem dcT_sim {p : Pat} {t : TT S} {xt : XT} {ek ev : TE S} {xk xv : XE} (ht : SimT t xt) (hk : SimE ek xk) (hv : SimE ev xv) {env : Env} {s : S} {Q : List (List Key × D) → S → Prop} : ∀ {ds : List D} {acc r : List (List Key × D)}, xDcT p xt xk xv env ds acc = some r → Q r s → dcT p t ek ev env Q ds acc s
  | [], acc, r, h, q => by simp only [xDcT, Option.some.injEq] at h; subst h; simpa [dcT] using q
  | d :: ds, acc, r, h, q => by
    unfold xDcT at h; unfold dcT
    split at h
    · rename_i env' e'
      try rw [e']
      split at h
      · rename_i et
        refine ht _ _ _ _ et ?_
        rw [if_pos rfl]
        split at h
        · rename_i xs ex
          split at h
          · rename_i z ez
            refine hk _ _ _ _ ex (hv _ _ _ _ ez ?_)
            split at h
            · rename_i qq eq
              split at h
              · rename_i hl
                show (match keysOf xs with
                  | some q => acc.length < line ∧ _
                  | none => False)
                rw [eq]
                exact ⟨hl, dcT_sim ht hk hv h q⟩
              · cases h
            · cases h
          · cases h
        · cases h
      · rename_i et
        exact ht _ _ _ _ et (by rw [if_neg Bool.false_ne_true]; exact dcT_sim ht hk hv h q)
      · cases h
    · cases h
def xDc (it : XA) (p : Pat) (t : XT) (ek ev : XE) (vs : List Nat) : XE := fun env => match it env with
  | some ds => match xDcT p t ek ev (wipeE env vs) ds [] with
    | some r => some (.dT r)
    | none => none
  | none => none
theorem s_dcT {it : TI S} {xi : XA} {p : Pat} {t : TT S} {xt : XT} {ek ev : TE S} {xk xv : XE} {vs : List Nat} (hi : SimI it xi) (ht : SimT t xt) (hk : SimE ek xk) (hv : SimE ev xv) : SimE (eDcT it p t ek ev vs) (xDc xi p xt xk xv vs) := fun env s Q d h q => by
  unfold xDc at h
  split at h
  · rename_i ds e1
    split at h
    · rename_i r e2; cases h; exact hi _ _ _ _ e1 (dcT_sim ht hk hv e2 q)
    · cases h
  · cases h
def xDk (ks : List Str) (a : XA) : XE := fun env => match a env with
  | some ds => some (.dK ((ks.map .inr).zip ds))
  | none => none
theorem s_dk {ks : List Str} {a : TA S} {xa : XA} (ha : SimA a xa) : SimE (eDk ks a) (xDk ks xa) := fun env s Q d h q => by
  unfold xDk at h
  split at h
  · rename_i ds e; cases h; exact ha _ _ _ _ e q
  · cases h
def xMeL (f : D → D → Option D) (a b : XE) : XE := fun env => match a env with
  | some (.lst x) => match b env with
    | some y => f (.lst x) y
    | none => none
  | _ => none
theorem s_meL {f : Op2} {xf : D → D → Option D} {a b : TE S} {xa xb : XE} (hf : Sim2 f xf) (ha : SimE a xa) (hb : SimE b xb) : SimE (eMeL f a b) (xMeL xf xa xb) := fun env s Q d h q => by
  unfold xMeL at h
  split at h
  · rename_i x ex
    split at h
    · rename_i y ey; exact ha _ _ _ _ ex ⟨trivial, hb _ _ _ _ ey (hf _ _ _ _ h q)⟩
    · cases h
  · cases h
def xoNone : Env → Option (Option Int) := fun _ => some none
theorem s_onone : SimO (S := S) oNone xoNone := fun env s Q d h q => by cases h; exact q
def xoSome (a : XE) : Env → Option (Option Int) := fun env => match a env with
  | some (.int i) => some (some i)
  | _ => none
theorem s_osome {a : TE S} {xa : XE} (ha : SimE a xa) : SimO (oSome a) (xoSome xa) := fun env s Q d h q => by
  unfold xoSome at h
  split at h
  · rename_i i e; cases h; exact ha _ _ _ _ e q
  · cases h
def xSlT (a : XE) (lo hi : Env → Option (Option Int)) : XE := fun env => match a env, lo env, hi env with
  | some (.tup xs), some l, some h => some (.tup (cutD xs l h))
  | _, _, _ => none
theorem s_slT {a : TE S} {lo hi : TO S} {xa : XE} {xl xh : Env → Option (Option Int)} (ha : SimE a xa) (hl : SimO lo xl) (hh : SimO hi xh) : SimE (eSlT a lo hi) (xSlT xa xl xh) := fun env s Q d h q => by
  unfold xSlT at h
  split at h
  · rename_i e1 e2 e3; cases h; exact ha _ _ _ _ e1 (hl _ _ _ _ e2 (hh _ _ _ _ e3 q))
  · cases h
def xSlL (a : XE) (lo hi : Env → Option (Option Int)) : XE := fun env => match a env, lo env, hi env with
  | some (.lst xs), some l, some h => some (.lst (cutD xs l h))
  | _, _, _ => none
theorem s_slL {a : TE S} {lo hi : TO S} {xa : XE} {xl xh : Env → Option (Option Int)} (ha : SimE a xa) (hl : SimO lo xl) (hh : SimO hi xh) : SimE (eSlL a lo hi) (xSlL xa xl xh) := fun env s Q d h q => by
  unfold xSlL at h
  split at h
  · rename_i e1 e2 e3; cases h; exact ha _ _ _ _ e1 (hl _ _ _ _ e2 (hh _ _ _ _ e3 q))
  · cases h
def xIsI (n : String) (a : XE) : XE := fun env => match a env with
  | some x => match tyOf x with
    | some t => some (.bl (subTy t n))
    | none => none
  | none => none
theorem s_isI {n : String} {a : TE S} {xa : XE} (ha : SimE a xa) : SimE (eIsI n a) (xIsI n xa) := fun env s Q d h q => by
  unfold xIsI at h
  split at h
  · rename_i x e
    split at h
    · rename_i t et; cases h; exact ha _ _ _ _ e (by rw [et]; exact q)
    · cases h
  · cases h
/-! defs -/
def xDef (n : Nat) (x : XS) : List D → Option D := fun ds => match x (startE n ds) with
  | some (.rt d) => some d
  | some (.nx _) => some .non
  | _ => none
theorem s_def {n : Nat} {T : (D → S → Prop) → TS S} {x : XS} (h : ∀ ex, SimS (T ex) x) : SimF (fDef n T) (xDef n x) := fun ds s Q ex d hd q => by
  unfold xDef at hd
  split at hd
  · rename_i e; cases hd; exact h ex _ _ _ _ e q
  · rename_i e; cases hd; exact h ex _ _ _ _ e q
  · cases hd
end
/-! operations -/
def xoAdd : D → D → Option D
  | .int i, .int j => some (.int (i + j))
  | .tup xs, .tup ys => if xs.length + ys.length ≤ line then some (.tup (xs ++ ys)) else none
  | _, _ => none
theorem s_add : Sim2 opAdd xoAdd := fun a b k d h q => by
  unfold xoAdd at h
  split at h
  · cases h; exact q
  · split at h
    · rename_i hl; cases h; exact ⟨hl, q⟩
    · cases h
  · cases h
def xoInc : D → D → Option D
  | .int i, .int j => some (.int (i + j))
  | _, _ => none
theorem s_inc : Sim2 opInc xoInc := fun a b k d h q => by
  unfold xoInc at h; split at h <;> cases h; exact q
def xoCat : D → D → Option D
  | .lst xs, .lst ys => if xs.length + ys.length ≤ line then some (.lst (xs ++ ys)) else none
  | _, _ => none
theorem s_cat : Sim2 opCat xoCat := fun a b k d h q => by
  unfold xoCat at h
  split at h
  · split at h
    · rename_i hl; cases h; exact ⟨hl, q⟩
    · cases h
  · cases h
def xoSub : D → D → Option D
  | .int i, .int j => some (.int (i - j))
  | _, _ => none
theorem s_sub : Sim2 opSub xoSub := fun a b k d h q => by
  unfold xoSub at h; split at h <;> cases h; exact q
def xoMul : D → D → Option D
  | .int i, .int j => if i.natAbs < 2 ^ 256 ∧ j.natAbs < 2 ^ 256 then some (.int (i * j)) else none
  | _, _ => none
theorem s_mul : Sim2 opMulI xoMul := fun a b k d h q => by
  unfold xoMul at h
  split at h
  · split at h
    · rename_i i j hl
      cases h
      refine ⟨?_, q⟩
      have l2 : ∀ n : Nat, n < 2 ^ 256 → n.log2 < 256 := fun n hn => by
        by_cases z : n = 0
        · subst z; decide
        · exact (Nat.log2_lt z).mpr hn
      have h1 := l2 _ hl.1
      have h2 := l2 _ hl.2
      exact .inr (.inr (by omega))
    · cases h
  · cases h
def xoDiv : D → D → Option D
  | .int i, .int j => if j ≠ 0 ∧ j.natAbs < 2 ^ 256 then some (.int (i.fdiv j)) else none
  | _, _ => none
theorem s_div : Sim2 opDiv xoDiv := fun a b k d h q => by
  unfold xoDiv at h
  split at h
  · split at h
    · rename_i i j hl
      cases h
      refine ⟨⟨hl.1, ?_⟩, q⟩
      have z : j.natAbs ≠ 0 := by have := hl.1; omega
      have := (Nat.log2_lt z).mpr hl.2
      omega
    · cases h
  · cases h
def xoMod : D → D → Option D
  | .int i, .int j => if j ≠ 0 then some (.int (i.fmod j)) else none
  | _, _ => none
theorem s_mod : Sim2 opMod xoMod := fun a b k d h q => by
  unfold xoMod at h
  split at h
  · split at h
    · rename_i i j hl; cases h; exact ⟨hl, q⟩
    · cases h
  · cases h
def xoPow : D → D → Option D
  | .int i, .int j => if 0 ≤ j ∧ j ≤ 1000 ∧ i.natAbs < 2 ^ 64 then some (.int (i ^ j.toNat)) else none
  | _, _ => none
theorem s_pow : Sim2 opPow xoPow := fun a b k d h q => by
  unfold xoPow at h
  split at h
  · split at h
    · rename_i i j hl; cases h; exact ⟨hl.1, by omega, hl.2.2, q⟩
    · cases h
  · cases h
def xoNeg : D → Option D
  | .int i => some (.int (-i))
  | _ => none
theorem s_neg : Sim1 unNeg xoNeg := fun a k d h q => by
  unfold xoNeg at h; split at h <;> cases h; exact q
def xoOrd (r : Int → Int → Bool) (z : Nat → Nat → Bool) : D → D → Option D
  | .int i, .int j => some (.bl (r i j))
  | .tup xs, .tup ys => match intsOf xs, intsOf ys with
    | some ns, some ms => some (.bl (lexD r (z ns.length ms.length) ns ms))
    | _, _ => none
  | _, _ => none
def xoLt := xoOrd (fun x y => decide (x < y)) fun m n => decide (m < n)
def xoLe := xoOrd (fun x y => decide (x ≤ y)) fun m n => decide (m ≤ n)
def xoGt := xoOrd (fun x y => decide (y < x)) fun m n => decide (n < m)
def xoGe := xoOrd (fun x y => decide (y ≤ x)) fun m n => decide (n ≤ m)
theorem s_lt : Sim2 opLt xoLt := fun a b k d h q => by
  unfold xoLt xoOrd at h
  split at h
  · cases h; exact q
  · split at h
    · rename_i e1 e2; cases h; unfold opLt; simp only [e1, e2]; exact q
    · cases h
  · cases h
theorem s_le : Sim2 opLe xoLe := fun a b k d h q => by
  unfold xoLe xoOrd at h
  split at h
  · cases h; exact q
  · split at h
    · rename_i e1 e2; cases h; unfold opLe; simp only [e1, e2]; exact q
    · cases h
  · cases h
theorem s_gt : Sim2 opGt xoGt := fun a b k d h q => by
  unfold xoGt xoOrd at h
  split at h
  · cases h; exact q
  · split at h
    · rename_i e1 e2; cases h; unfold opGt; simp only [e1, e2]; exact q
    · cases h
  · cases h
theorem s_ge : Sim2 opGe xoGe := fun a b k d h q => by
  unfold xoGe xoOrd at h
  split at h
  · cases h; exact q
  · split at h
    · rename_i e1 e2; cases h; unfold opGe; simp only [e1, e2]; exact q
    · cases h
  · cases h
def xoEq : D → D → Option D
  | .int i, .int j => some (.bl (decide (i = j)))
  | .str i, .str j => some (.bl (decide (i = j)))
  | x, y => if flat deep x = true ∧ flat deep y = true then some (.bl (PySem.PyData.eqv (toPy x) (toPy y))) else none
theorem s_eq : Sim2 opEq xoEq := fun a b k d h q => by
  unfold xoEq at h
  split at h
  · cases h; exact q
  · cases h; exact q
  · split at h
    · rename_i n1 n2 hl
      cases h
      unfold opEq
      split
      · rename_i i j; exact absurd rfl (n1 i j rfl)
      · rename_i i j; exact absurd rfl (n2 i j rfl)
      · exact ⟨hl.1, hl.2, q⟩
    · cases h
end DL

end
section
set_option autoImplicit false
set_option linter.all false
set_option maxRecDepth 100000
/-! The data layer, plain part: readings as programs: operations and functions. -/
namespace DL
def xoNe : D → D → Option D := fun a b => match xoEq a b with
  | some (.bl c) => some (.bl (!c))
  | _ => none
theorem s_ne : Sim2 opNe xoNe := fun a b k d h q => by
  unfold xoNe xoEq at h
  split at h
  · rename_i c e
    cases h
    split at e
    · cases e; exact q
    · cases e; exact q
    · split at e
      · rename_i n1 n2 hl
        cases e
        unfold opNe
        split
        · rename_i i j; exact absurd rfl (n1 i j rfl)
        · rename_i i j; exact absurd rfl (n2 i j rfl)
        · exact ⟨hl.1, hl.2, q⟩
      · cases e
  · cases h
def xoIsN : D → D → Option D
  | x, .non => some (.bl (isNon x))
  | _, _ => none
theorem s_isN : Sim2 opIsN xoIsN := fun a b k d h q => by
  unfold xoIsN at h; split at h <;> cases h; exact q
def xoNotN : D → D → Option D
  | x, .non => some (.bl (!isNon x))
  | _, _ => none
theorem s_notN : Sim2 opNotN xoNotN := fun a b k d h q => by
  unfold xoNotN at h; split at h <;> cases h; exact q
def xoIsB : D → D → Option D
  | .bl a, .bl b => some (.bl (decide (a = b)))
  | _, _ => none
theorem s_isB : Sim2 opIsB xoIsB := fun a b k d h q => by
  unfold xoIsB at h; split at h <;> cases h; exact q
def xoIsNotB : D → D → Option D
  | .bl a, .bl b => some (.bl (!decide (a = b)))
  | _, _ => none
theorem s_isNotB : Sim2 opIsNotB xoIsNotB := fun a b k d h q => by
  unfold xoIsNotB at h; split at h <;> cases h; exact q
def xoIn : D → D → Option D
  | x, .lst ys => if flat deep x = true ∧ flats deep ys = true then some (.bl (inD x ys)) else none
  | x, .tup ys => if flat deep x = true ∧ flats deep ys = true then some (.bl (inD x ys)) else none
  | _, _ => none
theorem s_in : Sim2 opIn xoIn := fun a b k d h q => by
  unfold xoIn at h
  split at h
  · split at h
    · rename_i hl; cases h; exact ⟨hl.1, hl.2, q⟩
    · cases h
  · split at h
    · rename_i hl; cases h; exact ⟨hl.1, hl.2, q⟩
    · cases h
  · cases h
def xoNotIn : D → D → Option D
  | x, .lst ys => if flat deep x = true ∧ flats deep ys = true then some (.bl (!inD x ys)) else none
  | x, .tup ys => if flat deep x = true ∧ flats deep ys = true then some (.bl (!inD x ys)) else none
  | _, _ => none
theorem s_notIn : Sim2 opNotIn xoNotIn := fun a b k d h q => by
  unfold xoNotIn at h
  split at h
  · split at h
    · rename_i hl; cases h; exact ⟨hl.1, hl.2, q⟩
    · cases h
  · split at h
    · rename_i hl; cases h; exact ⟨hl.1, hl.2, q⟩
    · cases h
  · cases h
def xAt (xs : List D) (i : Int) : Option D := (ixN xs.length i).bind fun j => xs[j]?
theorem atD_sim {xs : List D} {i : Int} {d : D} {k : D → Prop} (h : xAt xs i = some d) (q : k d) : atD xs i k := by
  unfold xAt at h
  unfold atD
  rw [h]
  exact q
def xoIx : D → D → Option D
  | .lst xs, .int i => xAt xs i
  | .tup xs, .int i => xAt xs i
  | _, _ => none
theorem s_ix : Sim2 opIx xoIx := fun a b k d h q => by
  unfold xoIx at h
  split at h
  · exact atD_sim h q
  · exact atD_sim h q
  · cases h
def xoDget : D → D → Option D
  | .dK kvs, y => match keyOf y with
    | some q => atK q kvs
    | none => none
  | .dT kvs, .tup ys => match keysOf ys with
    | some q => atK q kvs
    | none => none
  | _, _ => none
theorem s_dget : Sim2 opDget xoDget := fun a b k d h q => by
  unfold xoDget at h
  unfold opDget
  split at h
  · split at h
    · rename_i e; simp only [e, h]; exact q
    · cases h
  · split at h
    · rename_i e; simp only [e, h]; exact q
    · cases h
  · cases h
def xoIdx : D → D → Option D
  | .lst xs, y => if flat deep y = true ∧ flats deep xs = true then (match firstAt y xs with
    | some j => some (.int j)
    | none => none) else none
  | _, _ => none
theorem s_idx : Sim2 opIdx xoIdx := fun a b k d h q => by
  unfold xoIdx at h
  unfold opIdx
  split at h
  · split at h
    · rename_i hl
      split at h
      · rename_i e; cases h; refine ⟨hl.1, hl.2, ?_⟩; rw [e]; exact q
      · cases h
    · cases h
  · cases h
/-! functions -/
def xfLen : List D → Option D
  | [.lst xs] => some (.int xs.length)
  | [.tup xs] => some (.int xs.length)
  | _ => none
theorem s_len : SimN fnLen xfLen := fun a k d h q => by
  unfold xfLen at h; split at h <;> cases h <;> exact q
def xfAbs : List D → Option D
  | [.int i] => some (.int (if i < 0 then -i else i))
  | _ => none
theorem s_abs : SimN fnAbs xfAbs := fun a k d h q => by
  unfold xfAbs at h; split at h <;> cases h; exact q
def xfMax2 : List D → Option D
  | [.int i, .int j] => some (.int (if j > i then j else i))
  | _ => none
theorem s_max2 : SimN fnMax2 xfMax2 := fun a k d h q => by
  unfold xfMax2 at h; split at h <;> cases h; exact q
def xfMin2 : List D → Option D
  | [.int i, .int j] => some (.int (if j < i then j else i))
  | _ => none
theorem s_min2 : SimN fnMin2 xfMin2 := fun a k d h q => by
  unfold xfMin2 at h; split at h <;> cases h; exact q
def xfInt : List D → Option D
  | [.int i] => some (.int i)
  | [.bl b] => some (.int (if b then 1 else 0))
  | _ => none
theorem s_int : SimN fnInt xfInt := fun a k d h q => by
  unfold xfInt at h; split at h <;> cases h <;> exact q
def xfGcd : List D → Option D
  | [.int a, .int b] => some (.int ((Nat.gcd a.natAbs b.natAbs : Nat) : Int))
  | _ => none
theorem s_gcd : SimN fnGcd xfGcd := fun a k d h q => by
  unfold xfGcd at h; split at h <;> cases h; exact q
def xfSum : List D → Option D
  | [.lst xs] => match intsOf xs with
    | some ns => some (.int ns.sum)
    | none => none
  | _ => none
theorem s_sum : SimN fnSum xfSum := fun a k d h q => by
  unfold xfSum at h
  split at h
  · split at h
    · rename_i e; cases h; unfold fnSum; simp only [e]; exact q
    · cases h
  · cases h
def xfAll : List D → Option D
  | [.lst xs] => match blsOf xs with
    | some bs => some (.bl (bs.all id))
    | none => none
  | _ => none
theorem s_all : SimN fnAll xfAll := fun a k d h q => by
  unfold xfAll at h
  split at h
  · split at h
    · rename_i e; cases h; unfold fnAll; simp only [e]; exact q
    · cases h
  · cases h
def xfAny : List D → Option D
  | [.lst xs] => match blsOf xs with
    | some bs => some (.bl (bs.any id))
    | none => none
  | _ => none
theorem s_any : SimN fnAnyB xfAny := fun a k d h q => by
  unfold xfAny at h
  split at h
  · split at h
    · rename_i e; cases h; unfold fnAnyB; simp only [e]; exact q
    · cases h
  · cases h
def xfMin1 : List D → Option D
  | [.lst xs] => match intsOf xs with
    | some (n :: ns) => some (.int (minL n ns))
    | _ => none
  | _ => none
theorem s_min1 : SimN fnMin1 xfMin1 := fun a k d h q => by
  unfold xfMin1 at h
  split at h
  · split at h
    · rename_i e; cases h; unfold fnMin1; simp only [e]; exact q
    · cases h
  · cases h
def xfMax1 : List D → Option D
  | [.lst xs] => match intsOf xs with
    | some (n :: ns) => some (.int (maxL n ns))
    | _ => none
  | _ => none
theorem s_max1 : SimN fnMax1 xfMax1 := fun a k d h q => by
  unfold xfMax1 at h
  split at h
  · split at h
    · rename_i e; cases h; unfold fnMax1; simp only [e]; exact q
    · cases h
  · cases h
def xfTuple : List D → Option D
  | [.lst xs] => some (.tup xs)
  | [.tup xs] => some (.tup xs)
  | _ => none
theorem s_tuple : SimN fnTuple xfTuple := fun a k d h q => by
  unfold xfTuple at h; split at h <;> cases h <;> exact q
def xfList : List D → Option D
  | [.lst xs] => some (.lst xs)
  | [.tup xs] => some (.lst xs)
  | _ => none
theorem s_list : SimN fnList xfList := fun a k d h q => by
  unfold xfList at h; split at h <;> cases h <;> exact q
/-- whether a program's answer is True -/
def saysTrue : Option D → Bool
  | some (.bl true) => true
  | _ => false
theorem saysTrue_eq {o : Option D} (h : saysTrue o = true) : o = some (.bl true) := by
  unfold saysTrue at h
  split at h
  · rfl
  · cases h
end DL

end
section
set_option autoImplicit false
set_option linter.all false
set_option maxRecDepth 100000
/-! The data layer, plain part: readings as programs: sorting, texts, dicts of one's own. -/
namespace DL
section
variable {S : Type}
def xfSorted : List D → Option D
  | [.lst xs] => match intsOf xs with
    | some ns => some (.lst ((sortI ns).map .int))
    | none => match rowsOf xs with
      | some rs => if rowsOk rs = true then some (.lst ((sortR rs).map rowD)) else none
      | none => none
  | _ => none
theorem s_sorted : SimN fnSorted xfSorted := fun a k d h q => by
  unfold xfSorted at h
  split at h
  · unfold fnSorted
    split at h
    · rename_i e; cases h; simp only [e]; exact q
    · rename_i e
      split at h
      · rename_i e2
        split at h
        · rename_i e3; cases h; simp only [e, e2]; exact ⟨e3, q⟩
        · cases h
      · cases h
  · cases h
def xfListA : List D → Option D
  | [.lst xs] => some (.lst xs)
  | [.tup xs] => some (.lst xs)
  | [.dK kvs] => some (.lst (kvs.map fun p => keyD p.1))
  | _ => none
theorem s_listA : SimN fnListA xfListA := fun a k d h q => by
  unfold xfListA at h; split at h <;> cases h <;> exact q
def xRevT (a : XE) : XE := fun env => match a env with
  | some (.tup xs) => some (.tup xs.reverse)
  | _ => none
theorem s_revT {a : TE S} {xa : XE} (ha : SimE a xa) : SimE (eRevT a) (xRevT xa) := fun env s Q d h q => by
  unfold xRevT at h
  split at h
  · rename_i xs e; cases h; exact ha _ _ _ _ e q
  · cases h
def xRev (a : XE) : XE := fun env => match a env with
  | some (.lst xs) => some (.lst xs.reverse)
  | _ => none
theorem s_rev {a : TE S} {xa : XE} (ha : SimE a xa) : SimE (eRev a) (xRev xa) := fun env s Q d h q => by
  unfold xRev at h
  split at h
  · rename_i xs e; cases h; exact ha _ _ _ _ e q
  · cases h
def xNewK : XE := fun _ => some (.dK [])
theorem s_newK : SimE (S := S) eNewK xNewK := fun env s Q d h q => by cases h; exact q
def xNewT : XE := fun _ => some (.dT [])
theorem s_newT : SimE (S := S) eNewT xNewT := fun env s Q d h q => by cases h; exact q
def xLstI (it : XA) : XE := fun env => match it env with
  | some ds => if ds.length ≤ line then some (.lst ds) else none
  | none => none
theorem s_lstI {it : TI S} {xi : XA} (hi : SimI it xi) : SimE (eLstI it) (xLstI xi) := fun env s Q d h q => by
  unfold xLstI at h
  split at h
  · rename_i ds e
    split at h
    · rename_i hl; cases h; exact hi _ _ _ _ e ⟨hl, q⟩
    · cases h
  · cases h
def xPutDk : D → D → D → Option D
  | .dK kvs, y, z => match keyOf y with
    | some q => if kvs.length < line then some (.dK (putA kvs q z)) else none
    | none => none
  | .dT kvs, .tup ys, z => match keysOf ys with
    | some q => if kvs.length < line then some (.dT (putA kvs q z)) else none
    | none => none
  | _, _, _ => none
theorem putDk_sim {o y z d : D} {k : D → Prop} (h : xPutDk o y z = some d) (q : k d) : putDk o y z k := by
  unfold xPutDk at h
  split at h
  · split at h
    · rename_i e
      split at h
      · rename_i hl; cases h; unfold putDk; simp only [e]; exact ⟨hl, q⟩
      · cases h
    · cases h
  · split at h
    · rename_i e
      split at h
      · rename_i hl; cases h; unfold putDk; simp only [e]; exact ⟨hl, q⟩
      · cases h
    · cases h
  · cases h
def xDkPut (i : Nat) (ix a : XE) : XS := fun env => match env[i]? with
  | some (.own o) => match a env with
    | some d => match ix env with
      | some n => match xPutDk o n d with
        | some o' => some (.nx (env.set i (.own o')))
        | none => none
      | none => none
    | none => none
  | _ => none
theorem s_dkPut {i : Nat} {ix a : TE S} {xi xa : XE} (hi : SimE ix xi) (ha : SimE a xa) : SimS (sDkPut i ix a) (xDkPut i xi xa) := fun K env s r h q => by
  unfold xDkPut at h
  unfold sDkPut
  split at h
  · rename_i o e
    split at h
    · rename_i d ed
      split at h
      · rename_i n en
        split at h
        · rename_i o' eo
          cases h
          try rw [e]
          exact ha _ _ _ _ ed (hi _ _ _ _ en (putDk_sim eo q))
        · cases h
      · cases h
    · cases h
  · cases h
def xPutD : D → D → D → Option D
  | .lst ds, .int n, v => match ixN ds.length n with
    | some j => some (.lst (ds.set j v))
    | none => none
  | _, _, _ => none
theorem putD_sim {o y z d : D} {k : D → Prop} (h : xPutD o y z = some d) (q : k d) : putD o y z k := by
  unfold xPutD at h
  split at h
  · split at h
    · rename_i e; cases h; unfold putD; simp only [e]; exact q
    · cases h
  · cases h
def xPutL (i : Nat) (ix a : XE) : XS := fun env => match env[i]? with
  | some (.own o) => match a env with
    | some d => match ix env with
      | some n => match xPutD o n d with
        | some o' => some (.nx (env.set i (.own o')))
        | none => none
      | none => none
    | none => none
  | _ => none
theorem s_put {i : Nat} {ix a : TE S} {xi xa : XE} (hi : SimE ix xi) (ha : SimE a xa) : SimS (sPut i ix a) (xPutL i xi xa) := fun K env s r h q => by
  unfold xPutL at h
  unfold sPut
  split at h
  · rename_i o e
    split at h
    · rename_i d ed
      split at h
      · rename_i n en
        split at h
        · rename_i o' eo
          cases h
          try rw [e]
          exact ha _ _ _ _ ed (hi _ _ _ _ en (putD_sim eo q))
        · cases h
      · cases h
    · cases h
  · cases h
end
/-! ### texts that are alike -/
def okLeaf (i : Int) : Bool := decide (i.natAbs < 2 ^ 200)
mutual
/-- small: shown in few signs -/
def small : Nat → D → Bool
  | _, .non => true
  | _, .bl _ => true
  | _, .int i => okLeaf i
  | n + 1, .tup xs => decide (xs.length ≤ 40) && smalls n xs
  | n + 1, .lst xs => decide (xs.length ≤ 40) && smalls n xs
  | _, _ => false
def smalls : Nat → List D → Bool
  | _, [] => true
  | n, x :: xs => small n x && smalls n xs
end
/-- in how many signs at most -/
def signs : Nat → Nat
  | 0 => 202
  | n + 1 => 40 * (signs n + 2) + 5
theorem piled_le {B : Nat} : ∀ {ts : List PySem.Str}, (∀ t ∈ ts, t.length ≤ B) → PySem.piled ts ≤ ts.length * (B + 2)
  | [], _ => Nat.zero_le _
  | t :: ts, h => by
    rw [PySem.piled_cons, List.length_cons, Nat.succ_mul]
    have h1 := h t List.mem_cons_self
    have h2 := piled_le (B := B) fun u hu => h u (List.mem_cons_of_mem _ hu)
    omega
theorem listText_le : ∀ ts : List PySem.Str, (PySem.listText ts).length ≤ PySem.piled ts + 2
  | [] => by rw [PySem.listText_nil]; exact Nat.le_refl _
  | t :: r => by
    have h := PySem.textFrom_length_pos r 1 (("[" : PySem.Str) ++ (if (0 : Nat) > 0 then ", " else "" : String) ++ t) (Nat.succ_pos 0)
    have e : ((("[" : PySem.Str) ++ (if (0 : Nat) > 0 then ", " else "" : String) ++ t)).length = 1 + t.length := by
      rw [PySem.strLen_append, PySem.strLen_append]; rfl
    have z : (PySem.listText (t :: r)).length = (PySem.textFrom 1 (("[" : PySem.Str) ++ (if (0 : Nat) > 0 then ", " else "" : String) ++ t) r).length + 1 := by
      show (PySem.textFrom 1 _ r ++ "]").length = _
      rw [PySem.strLen_append]; rfl
    rw [z, h, e, PySem.piled_cons]
    omega
theorem tupleText_le (ts : List PySem.Str) : (PySem.tupleText ts).length ≤ PySem.piled ts + 3 := by
  have one : ∀ b : Bool, (((if b = true then ",)" else ")" : String) : PySem.Str)).length ≤ 2 := fun b => by cases b <;> decide
  unfold PySem.tupleText
  rw [PySem.strLen_append, PySem.strLen_append]
  have := one (ts.length == 1)
  have e1 : ((("(" : String) : PySem.Str)).length = 1 := rfl
  by_cases h : ts = []
  · subst h
    have e2 : (PySem.Str.join ", " []).length = 0 := rfl
    omega
  · have e2 := PySem.join_length_add ts h
    omega
theorem signs_mono : ∀ n, signs 0 ≤ signs n
  | 0 => Nat.le_refl _
  | n + 1 => by have := signs_mono n; show signs 0 ≤ 40 * (signs n + 2) + 5; omega
theorem leaf_ok {i : Int} (h : okLeaf i = true) : (PySem.PyData.int i).showable = true ∧ (PySem.PyData.int i).shown.length ≤ 202 := by
  have h1 : i.natAbs < 2 ^ 200 := of_decide_eq_true h
  have h2 : i.natAbs.log2 < 200 := by
    by_cases z : i.natAbs = 0
    · rw [z]; decide
    · exact (Nat.log2_lt z).mpr h1
  refine ⟨by simp only [PySem.PyData.showable]; exact decide_eq_true (by omega), ?_⟩
  have := PySem.int_text_length_le (a := i) (k := 200) (by decide) h2
  simp only [PySem.PyData.shown]
  rw [PySem.ofString_length]
  omega
mutual
theorem small_ok : ∀ (n : Nat) (d : D), small n d = true → flat n d = true ∧ (toPy d).showable = true ∧ (toPy d).shown.length ≤ signs n
  | n, .non, h => ⟨by cases n <;> rfl, by simp [toPy, PySem.PyData.showable], Nat.le_trans (show (toPy .non).shown.length ≤ signs 0 by simp only [toPy, PySem.PyData.shown]; decide) (signs_mono n)⟩
  | n, .bl b, h => ⟨by cases n <;> rfl, by simp [toPy, PySem.PyData.showable], Nat.le_trans (show (toPy (.bl b)).shown.length ≤ signs 0 by simp only [toPy, PySem.PyData.shown]; cases b <;> decide) (signs_mono n)⟩
  | n, .int i, h => by
    have h' : okLeaf i = true := by cases n <;> exact h
    obtain ⟨h1, h2⟩ := leaf_ok h'
    exact ⟨by cases n <;> rfl, by simpa [toPy] using h1, Nat.le_trans (show (toPy (.int i)).shown.length ≤ signs 0 by simpa [toPy, signs] using h2) (signs_mono n)⟩
  | n, .str x, h => by cases n <;> simp [small] at h
  | 0, .tup xs, h => by simp [small] at h
  | n + 1, .tup xs, h => by
    have h' : (decide (xs.length ≤ 40) && smalls n xs) = true := by simpa [small] using h
    rw [Bool.and_eq_true, decide_eq_true_eq] at h'
    obtain ⟨h1, h2, h3, h4⟩ := smalls_ok n xs h'.2
    refine ⟨by simpa [flat] using h1, by simpa [toPy, PySem.PyData.showable] using h2, ?_⟩
    simp only [toPy, PySem.PyData.shown]
    have a := tupleText_le (PySem.PyData.shownAll (toPys xs))
    have b := piled_le h3
    have c : (PySem.PyData.shownAll (toPys xs)).length * (signs n + 2) ≤ 40 * (signs n + 2) := Nat.mul_le_mul_right _ (by omega)
    show _ ≤ 40 * (signs n + 2) + 5
    omega
  | 0, .lst xs, h => by simp [small] at h
  | n + 1, .lst xs, h => by
    have h' : (decide (xs.length ≤ 40) && smalls n xs) = true := by simpa [small] using h
    rw [Bool.and_eq_true, decide_eq_true_eq] at h'
    obtain ⟨h1, h2, h3, h4⟩ := smalls_ok n xs h'.2
    refine ⟨by simpa [flat] using h1, by simpa [toPy, PySem.PyData.showable] using h2, ?_⟩
    simp only [toPy, PySem.PyData.shown]
    have a := listText_le (PySem.PyData.shownAll (toPys xs))
    have b := piled_le h3
    have c : (PySem.PyData.shownAll (toPys xs)).length * (signs n + 2) ≤ 40 * (signs n + 2) := Nat.mul_le_mul_right _ (by omega)
    show _ ≤ 40 * (signs n + 2) + 5
    omega
  | n, .ty _, h => by cases n <;> simp [small] at h
  | n, .obj _, h => by cases n <;> simp [small] at h
  | n, .scr _, h => by cases n <;> simp [small] at h
  | n, .dK _, h => by cases n <;> simp [small] at h
  | n, .dT _, h => by cases n <;> simp [small] at h
theorem smalls_ok : ∀ (n : Nat) (ds : List D), smalls n ds = true → flats n ds = true ∧ PySem.PyData.showableAll (toPys ds) = true ∧ (∀ t ∈ PySem.PyData.shownAll (toPys ds), t.length ≤ signs n) ∧ (PySem.PyData.shownAll (toPys ds)).length = ds.length
  | n, [], h => ⟨by cases n <;> rfl, by simp [toPys, PySem.PyData.showableAll], fun t ht => by simp [toPys, PySem.PyData.shownAll] at ht, by simp [toPys, PySem.PyData.shownAll]⟩
  | n, d :: ds, h => by
    have h' : (small n d && smalls n ds) = true := by simpa [smalls] using h
    rw [Bool.and_eq_true] at h'
    obtain ⟨a1, a2, a3⟩ := small_ok n d h'.1
    obtain ⟨b1, b2, b3, b4⟩ := smalls_ok n ds h'.2
    refine ⟨by simp only [flats, a1, b1, Bool.and_self], by simp only [toPys, PySem.PyData.showableAll, a2, b2, Bool.and_self], fun t ht => ?_, by simp [toPys, PySem.PyData.shownAll, b4]⟩
    simp only [toPys, PySem.PyData.shownAll, List.mem_cons] at ht
    rcases ht with e | ht
    · rw [e]; exact a3
    · exact b3 t ht
end
mutual
theorem flat_up : ∀ (n : Nat) (d : D), flat n d = true → flat (n + 1) d = true
  | n, .non, _ => rfl
  | n, .bl _, _ => rfl
  | n, .int _, _ => rfl
  | n, .str x, h => by cases n <;> simpa [flat] using h
  | 0, .tup xs, h => by simp [flat] at h
  | n + 1, .tup xs, h => by
    have := flats_up n xs (by simpa [flat] using h)
    simpa [flat] using this
  | 0, .lst xs, h => by simp [flat] at h
  | n + 1, .lst xs, h => by
    have := flats_up n xs (by simpa [flat] using h)
    simpa [flat] using this
  | n, .ty _, h => by cases n <;> simp [flat] at h
  | n, .obj _, h => by cases n <;> simp [flat] at h
  | n, .scr _, h => by cases n <;> simp [flat] at h
  | n, .dK _, h => by cases n <;> simp [flat] at h
  | n, .dT _, h => by cases n <;> simp [flat] at h
theorem flats_up : ∀ (n : Nat) (ds : List D), flats n ds = true → flats (n + 1) ds = true
  | n, [], _ => rfl
  | n, d :: ds, h => by
    have h' : (flat n d && flats n ds) = true := by simpa [flats] using h
    rw [Bool.and_eq_true] at h'
    simp only [flats, flat_up n d h'.1, flats_up n ds h'.2, Bool.and_self]
end
/-- repr of small data -/
theorem repr_small {d : D} {k : D → Prop} (h : small 3 d = true) (q : k (.str (toPy d).shown)) : fnRepr [d] k := by
  obtain ⟨h1, h2, h3⟩ := small_ok 3 d h
  refine ⟨?_, h2, Nat.le_trans h3 (by decide), q⟩
  have f := fun m (z : flat m d = true) => flat_up m d z
  exact f _ (f _ (f _ (f _ (f _ (f _ (f _ (f _ (f _ h1))))))))
mutual
/-- the same data -/
def same : D → D → Bool
  | .non, .non => true
  | .bl a, .bl b => decide (a = b)
  | .int i, .int j => decide (i = j)
  | .tup xs, .tup ys => sames xs ys
  | .lst xs, .lst ys => sames xs ys
  | _, _ => false
def sames : List D → List D → Bool
  | [], [] => true
  | x :: xs, y :: ys => same x y && sames xs ys
  | _, _ => false
end
mutual
theorem same_eq : ∀ (x y : D), same x y = true → x = y
  | .non, y, h => by cases y <;> simp [same] at h; rfl
  | .bl a, y, h => by cases y <;> simp [same] at h; rw [h]
  | .int i, y, h => by cases y <;> simp [same] at h; rw [h]
  | .tup xs, y, h => by
    cases y with
    | tup ys => rw [sames_eq xs ys (by simpa [same] using h)]
    | _ => simp [same] at h
  | .lst xs, y, h => by
    cases y with
    | lst ys => rw [sames_eq xs ys (by simpa [same] using h)]
    | _ => simp [same] at h
  | .str _, y, h => by simp [same] at h
  | .ty _, y, h => by simp [same] at h
  | .obj _, y, h => by simp [same] at h
  | .scr _, y, h => by simp [same] at h
  | .dK _, y, h => by simp [same] at h
  | .dT _, y, h => by simp [same] at h
theorem sames_eq : ∀ (xs ys : List D), sames xs ys = true → xs = ys
  | [], [], _ => rfl
  | [], _ :: _, h => by simp [sames] at h
  | _ :: _, [], h => by simp [sames] at h
  | x :: xs, y :: ys, h => by
    have h' : (same x y && sames xs ys) = true := by simpa [sames] using h
    rw [Bool.and_eq_true] at h'
    rw [same_eq x y h'.1, sames_eq xs ys h'.2]
end
/-- the texts of the same small data are alike -/
theorem repr_ne {x y : D} {k : D → Prop} (h : small 3 x = true) (e : x = y) (q : k (.bl false)) : fnRepr [x] fun zx => fnRepr [y] fun zy => opNe zx zy k := by
  subst e
  refine repr_small h (repr_small h ?_)
  show k (.bl (!decide ((toPy x).shown = (toPy x).shown)))
  rw [decide_eq_true rfl]
  exact q
section
variable {S : Type}
def xReprNe (a b : XE) : XT := fun env => match a env with
  | some x => match b env with
    | some y => if small 3 x = true ∧ same x y = true then some false else none
    | none => none
  | none => none
theorem s_reprNe {a b : TE S} {xa xb : XE} (ha : SimE a xa) (hb : SimE b xb) : SimT (tCmp opNe (eFn fnRepr (aCons a aNil)) (eFn fnRepr (aCons b aNil))) (xReprNe xa xb) := fun env s Q d h q => by
  unfold xReprNe at h
  split at h
  · rename_i x ex
    split at h
    · rename_i y ey
      split at h
      · rename_i hh
        cases h
        have e := same_eq x y hh.2
        simp only [tCmp, eFn, aCons, aNil]
        refine ha _ _ _ _ ex ?_
        refine repr_small hh.1 (hb _ _ _ _ ey ?_)
        subst e
        refine repr_small hh.1 ?_
        show (match D.bl (!decide ((toPy x).shown = (toPy x).shown)) with | .bl c => Q c s | _ => False)
        rw [decide_eq_true rfl]
        exact q
      · cases h
    · cases h
  · cases h
end
end DL
namespace DL
def xoRep : D → D → Option D
  | .lst xs, .int n => if -(2 ^ 62) ≤ n ∧ n < 2 ^ 62 ∧ xs.length * n.toNat ≤ line then some (.lst (List.replicate n.toNat xs).flatten) else none
  | _, _ => none
theorem s_rep : Sim2 opRep xoRep := fun a b k d h q => by
  unfold xoRep at h
  split at h
  · split at h
    · rename_i hh
      cases h
      exact ⟨hh.1, hh.2.1, hh.2.2, q⟩
    · cases h
  · cases h
end DL

end
section
set_option autoImplicit false
set_option linter.all false
namespace K31
open DL
variable {S : Type} (E : Ext S)

def T_primes_of (ex : D → S → Prop) : TS S := (sSeq (sPar (.own 1 (eLst aNil) (.val 2 (eC (.int 2)) .nil))) (sSeq (sWhile (tCmp opGt (eBor 0) (eC (.int 1))) (sSeq (sWhile (tCmp opEq (eBin opMod (eBor 0) (eBor 2)) (eC (.int 0))) (sSeq (sApp 1 (eVar 2)) (sSeq (sSet 0 (eBin opDiv (eBor 0) (eBor 2))) sNil))) (sSeq (sAug 2 opInc (eC (.int 1))) sNil))) (sSeq (sSeq (sFrz 1) (sRet (eVar 1))) sNil)))
def f_primes_of : FS S := fDef 3 (T_primes_of)

def T_is_integer (ex : D → S → Prop) : TS S := (sSeq (sRet (eAnd (eIsI "int" (eBor 0)) (eNot (eIsI "bool" (eBor 0))))) sNil)
def f_is_integer : FS S := fDef 1 (T_is_integer)

def T_are_integers (ex : D → S → Prop) : TS S := (sSeq (sRet (eAnd (eIsI "tuple" (eBor 0)) (eFn fnAll (aCons (eLc (iOf (eVar 0)) (.nm 1) tYes (eCall f_is_integer ex (aCons (eVar 1) aNil)) [1]) aNil)))) sNil)
def f_are_integers : FS S := fDef 2 (T_are_integers)

def T_size (ex : D → S → Prop) : TS S := (sSeq (sSet 1 (eC (.int 1))) (sSeq (sFor (iOf (eVar 0)) (.nm 2) (sSeq (sSet 1 (eBin opMulI (eBor 1) (eBor 2))) sNil)) (sSeq (sRet (eVar 1)) sNil)))
def f_size : FS S := fDef 3 (T_size)

def T_are_rings_value (ex : D → S → Prop) : TS S := (sSeq (sIf (tOr (tNot (tOf (eCall f_are_integers ex (aCons (eVar 0) aNil)))) (tNot (tChain opLe opLe (eC (.int 1)) (eFn fnLen (aCons (eBor 0) aNil)) (eC (.int 4))))) (sSeq (sRet (eC (.bl false))) sNil) sNil) (sSeq (sRet (eAnd (eFn fnAll (aCons (eLc (iOf (eVar 0)) (.nm 1) tYes (eChain opLe opLe (eC (.int 2)) (eBor 1) (eC (.int 60))) [1]) aNil)) (eBin opLe (eCall f_size ex (aCons (eVar 0) aNil)) (eC (.int 60))))) sNil))
def f_are_rings_value : FS S := fDef 2 (T_are_rings_value)

def T_is_place_value (ex : D → S → Prop) : TS S := (sSeq (sIf (tOr (tNot (tOf (eCall f_are_integers ex (aCons (eVar 1) aNil)))) (tCmp opNe (eFn fnLen (aCons (eBor 1) aNil)) (eFn fnLen (aCons (eBor 0) aNil)))) (sSeq (sRet (eC (.bl false))) sNil) sNil) (sSeq (sRet (eFn fnAll (aCons (eLc (iZip (aCons (eVar 1) (aCons (eVar 0) aNil))) (.tp [(.nm 2), (.nm 3)]) tYes (eChain opLe opLt (eC (.int 0)) (eBor 2) (eBor 3)) [2, 3]) aNil))) sNil))
def f_is_place_value : FS S := fDef 4 (T_is_place_value)

def T_is_lot_value (ex : D → S → Prop) : TS S := (sSeq (sIf (tOr (tNot (tOf (eIsI "tuple" (eBor 1)))) (tNot (tOf (eFn fnAll (aCons (eLc (iOf (eVar 1)) (.nm 2) tYes (eCall f_is_place_value ex (aCons (eVar 0) (aCons (eVar 2) aNil))) [2]) aNil))))) (sSeq (sRet (eC (.bl false))) sNil) sNil) (sSeq (sRet (eFn fnAll (aCons (eLc (iZip (aCons (eVar 1) (aCons (eSlT (eVar 1) (oSome (eC (.int 1))) oNone) aNil))) (.tp [(.nm 2), (.nm 3)]) tYes (eBin opLt (eBor 2) (eBor 3)) [2, 3]) aNil))) sNil))
def f_is_lot_value : FS S := fDef 4 (T_is_lot_value)

def T_need_rings (ex : D → S → Prop) : TS S := (sSeq (sIf (tNot (tOf (eCall f_are_rings_value ex (aCons (eVar 0) aNil)))) (sSeq sNever sNil) sNil) sNil)
def f_need_rings : FS S := fDef 1 (T_need_rings)

def T_need_lot (ex : D → S → Prop) : TS S := (sSeq (sIf (tNot (tOf (eCall f_is_lot_value ex (aCons (eVar 0) (aCons (eVar 1) aNil))))) (sSeq sNever sNil) sNil) sNil)
def f_need_lot : FS S := fDef 2 (T_need_lot)

def T_need_count (ex : D → S → Prop) : TS S := (sSeq (sIf (tOr (tNot (tOf (eCall f_is_integer ex (aCons (eVar 0) aNil)))) (tOr (tCmp opLt (eBor 0) (eBor 1)) (tAnd (tCmp opNotN (eBor 2) (eC .non)) (tCmp opGt (eBor 0) (eBor 2))))) (sSeq sNever sNil) sNil) sNil)
def f_need_count : FS S := fDef 3 (T_need_count)

def T_order (ex : D → S → Prop) : TS S := (sSeq (sSet 1 (eC (.int 1))) (sSeq (sFor (iOf (eVar 0)) (.nm 2) (sSeq (sSet 1 (eBin opMulI (eBin opDiv (eBor 1) (eFn fnGcd (aCons (eBor 1) (aCons (eBor 2) aNil)))) (eBor 2))) sNil)) (sSeq (sRet (eVar 1)) sNil)))
def f_order : FS S := fDef 3 (T_order)

def T_places_of (ex : D → S → Prop) : TS S := (sSeq (sSet 1 (eLst (aCons (eTup aNil) aNil))) (sSeq (sFor (iOf (eVar 0)) (.nm 2) (sSeq (sSet 1 (eLc2 (iOf (eVar 1)) (.nm 3) tYes (iRng (aCons (eVar 2) aNil)) (.nm 4) tYes (eBin opAdd (eBor 3) (eTup (aCons (eVar 4) aNil))) [3, 4] [4])) sNil)) (sSeq (sRet (eVar 1)) sNil)))
def f_places_of : FS S := fDef 5 (T_places_of)

def T_pair_of (ex : D → S → Prop) : TS S := (sSeq (sSet 3 (eCall f_order ex (aCons (eVar 0) aNil))) (sSeq (sRet (eBin opMod (eFn fnSum (aCons (eLc (iZip (aCons (eVar 1) (aCons (eVar 2) (aCons (eVar 0) aNil)))) (.tp [(.nm 4), (.nm 5), (.nm 6)]) tYes (eBin opMulI (eBin opMulI (eBor 4) (eBor 5)) (eBin opDiv (eBor 3) (eBor 6))) [4, 5, 6]) aNil)) (eBor 3))) sNil))
def f_pair_of : FS S := fDef 7 (T_pair_of)

def T_choices_for (ex : D → S → Prop) : TS S := (sSeq (sOwn 2 (eLst aNil)) (sSeq (sFor (iRng (aCons (eC (.int 1)) (aCons (eBin opAdd (eBor 0) (eC (.int 1))) aNil))) (.nm 3) (sSeq (sIf (tAnd (tCmp opEq (eBin opMod (eBor 0) (eBor 3)) (eC (.int 0))) (tCmp opLe (eBor 3) (eBor 1))) (sSeq (sFor (iOf (eCall f_primes_of ex (aCons (eBin opDiv (eBor 0) (eBor 3)) aNil))) (.nm 4) (sSeq (sSet 5 (eFn fnMin2 (aCons (eBor 4) (aCons (eBin opDiv (eBor 1) (eBor 3)) aNil)))) (sSeq (sApp 2 (eTup (aCons (eBin opMulI (eBin opDiv (eBor 0) (eBin opMulI (eBor 3) (eBor 4))) (eBin opSub (eBin opAdd (eBor 4) (eC (.int 1))) (eBor 5))) (aCons (eVar 3) (aCons (eVar 4) (aCons (eVar 5) aNil)))))) sNil))) sNil) sNil) sNil)) (sSeq (sSeq (sFrz 2) (sRet (eVar 2))) sNil)))
def f_choices_for : FS S := fDef 6 (T_choices_for)

def T_least_voices (ex : D → S → Prop) : TS S := (sSeq (sRet (eFn fnMin1 (aCons (eLc (iOf (eCall f_choices_for ex (aCons (eVar 0) (aCons (eVar 1) aNil)))) (.nm 2) tYes (eBin opIx (eBor 2) (eC (.int 0))) [2]) aNil))) sNil)
def f_least_voices : FS S := fDef 3 (T_least_voices)

def T_turn_remainders (ex : D → S → Prop) : TS S := (sSeq (sPar (.val 1 (eC (.int 1)) (.own 2 (eLst (aCons (eC (.int 1)) aNil)) .nil))) (sSeq (sFor (iRng (aCons (eBin opDiv (eC (.int 840)) (eBor 0)) aNil)) (.nm 3) (sSeq (sSet 1 (eBin opMod (eBin opMulI (eBor 1) (eC (.int 989038565289215304))) (eC (.int 1000000000000002961)))) sNil)) (sSeq (sFor (iRng (aCons (eBin opSub (eBor 0) (eC (.int 1))) aNil)) (.nm 3) (sSeq (sApp 2 (eBin opMod (eBin opMulI (eBin opIx (eBor 2) (eUn unNeg (eC (.int 1)))) (eBor 1)) (eC (.int 1000000000000002961)))) sNil)) (sSeq (sSeq (sFrz 2) (sRet (eVar 2))) sNil))))
def f_turn_remainders : FS S := fDef 4 (T_turn_remainders)

def T_rank_by_remainders (ex : D → S → Prop) : TS S := (sSeq (sPar (.val 1 (eVar 0) (.val 2 (eC (.int 0)) .nil))) (sSeq (sWhile (tCmp opNe (eBor 1) (eLst aNil)) (sSeq (sPar (.val 3 (eBin opIx (eBor 1) (eC (.int 0))) (.val 1 (eSlL (eBor 1) (oSome (eC (.int 1))) oNone) .nil))) (sSeq (sSet 4 (eLc (iEnum (aCons (eVar 3) aNil)) (.tp [(.nm 5), (.nm 6)]) (tCmp opNe (eBor 6) (eC (.int 0))) (eVar 5) [5, 6])) (sSeq (sIf (tCmp opNe (eBor 4) (eLst aNil)) (sSeq (sPar (.val 5 (eBin opIx (eBor 4) (eC (.int 0))) (.val 2 (eBin opAdd (eBor 2) (eC (.int 1))) .nil))) (sSeq (sSet 1 (eLc (iOf (eVar 1)) (.nm 8) tYes (eLc (iZip (aCons (eVar 8) (aCons (eVar 3) aNil))) (.tp [(.nm 6), (.nm 7)]) tYes (eBin opMod (eBin opSub (eBin opMulI (eBor 6) (eBin opIx (eBor 3) (eBor 5))) (eBin opMulI (eBor 7) (eBin opIx (eBor 8) (eBor 5)))) (eC (.int 1000000000000002961))) [6, 7]) [8])) sNil)) sNil) sNil)))) (sSeq (sRet (eVar 2)) sNil)))
def f_rank_by_remainders : FS S := fDef 9 (T_rank_by_remainders)

def T_first_gap (ex : D → S → Prop) : TS S := (sSeq (sPar (.val 4 (eCall f_order ex (aCons (eVar 0) aNil)) (.val 5 (eCall f_places_of ex (aCons (eVar 0) aNil)) .nil))) (sSeq (sSet 6 (eCall f_turn_remainders ex (aCons (eVar 4) aNil))) (sSeq (sFor (iComb (aCons (eSlL (eBor 5) (oSome (eC (.int 1))) oNone) (aCons (eFn fnInt (aCons (eBin opSub (eBor 2) (eC (.int 1))) aNil)) aNil))) (.nm 7) (sSeq (sSet 8 (eBin opCat (eSlL (eBor 5) oNone (oSome (eC (.int 1)))) (eFn fnListA (aCons (eBor 7) aNil)))) (sSeq (sSet 9 (eDcT (iOf (eVar 1)) (.nm 11) tYes (eVar 11) (eLc (iOf (eVar 8)) (.nm 10) tYes (eBin opIx (eBor 6) (eCall f_pair_of ex (aCons (eVar 0) (aCons (eVar 10) (aCons (eVar 11) aNil))))) [10]) [11])) (sSeq (sFor (iComb (aCons (eFn fnListA (aCons (eBor 1) aNil)) (aCons (eFn fnInt (aCons (eBor 3) aNil)) aNil))) (.nm 12) (sSeq (sIf (tCmp opLt (eCall f_rank_by_remainders ex (aCons (eLc (iOf (eVar 12)) (.nm 11) tYes (eBin opDget (eBor 9) (eBor 11)) [11]) aNil)) (eBor 2)) (sSeq (sRet (eTup (aCons (eVar 8) (aCons (eFn fnListA (aCons (eBor 12) aNil)) aNil)))) sNil) sNil) sNil)) sNil)))) (sSeq (sRet (eC .non)) sNil))))
def f_first_gap : FS S := fDef 13 (T_first_gap)

def T_places_asked (ex : D → S → Prop) : TS S := (sSeq (sRet (eFn fnMin2 (aCons (eBin opMulI (eC (.int 2)) (eBor 1)) (aCons (eCall f_size ex (aCons (eVar 0) aNil)) aNil)))) sNil)
def f_places_asked : FS S := fDef 2 (T_places_asked)

def T_are_telling (ex : D → S → Prop) : TS S := (sSeq (sSet 4 (eBin opSub (eFn fnLen (aCons (eBor 1) aNil)) (eBin opMulI (eC (.int 2)) (eBor 3)))) (sSeq (sRet (eAnd (eBin opGt (eBor 4) (eC (.int 0))) (eBin opIsN (eCall f_first_gap ex (aCons (eVar 0) (aCons (eVar 1) (aCons (eCall f_places_asked ex (aCons (eVar 0) (aCons (eVar 2) aNil))) (aCons (eVar 4) aNil))))) (eC .non)))) sNil))
def f_are_telling : FS S := fDef 5 (T_are_telling)

def T_sure_many (ex : D → S → Prop) : TS S := (sSeq (sSet 3 (eBin opAdd (eBin opSub (eBin opAdd (eBor 0) (eC (.int 1))) (eCall f_least_voices ex (aCons (eVar 0) (aCons (eFn fnMin2 (aCons (eBin opMulI (eC (.int 2)) (eBor 1)) (aCons (eBor 0) aNil))) aNil)))) (eBin opMulI (eC (.int 2)) (eBor 2)))) (sSeq (sRet (eIf (tCmp opLe (eBor 3) (eBor 0)) (eVar 3) (eC .non))) sNil))
def f_sure_many : FS S := fDef 4 (T_sure_many)

def T_need_counts (ex : D → S → Prop) : TS S := (sSeq (sDrop (eCall f_need_count ex (aCons (eVar 1) (aCons (eC (.int 1)) (aCons (eCall f_size ex (aCons (eVar 0) aNil)) aNil))))) (sSeq (sDrop (eCallK f_need_count ex (· ++ [.non]) (aCons (eVar 2) (aCons (eC (.int 0)) aNil)))) sNil))
def f_need_counts : FS S := fDef 3 (T_need_counts)

def T_need_telling (ex : D → S → Prop) : TS S := (sSeq (sDrop (eCall f_need_rings ex (aCons (eVar 0) aNil))) (sSeq (sDrop (eCall f_need_lot ex (aCons (eVar 0) (aCons (eVar 1) aNil)))) (sSeq (sDrop (eCall f_need_counts ex (aCons (eVar 0) (aCons (eVar 2) (aCons (eVar 3) aNil))))) sNil)))
def f_need_telling : FS S := fDef 4 (T_need_telling)

def T_does_tell (ex : D → S → Prop) : TS S := (sSeq (sDrop (eCall f_need_telling ex (aCons (eVar 0) (aCons (eVar 1) (aCons (eVar 2) (aCons (eVar 3) aNil)))))) (sSeq (sRet (eCall f_are_telling ex (aCons (eVar 0) (aCons (eVar 1) (aCons (eVar 2) (aCons (eVar 3) aNil)))))) sNil))
def f_does_tell : FS S := fDef 4 (T_does_tell)

def T_sure_number (ex : D → S → Prop) : TS S := (sSeq (sDrop (eCall f_need_rings ex (aCons (eVar 0) aNil))) (sSeq (sDrop (eCall f_need_counts ex (aCons (eVar 0) (aCons (eVar 1) (aCons (eVar 2) aNil))))) (sSeq (sRet (eCall f_sure_many ex (aCons (eCall f_size ex (aCons (eVar 0) aNil)) (aCons (eVar 1) (aCons (eVar 2) aNil))))) sNil)))
def f_sure_number : FS S := fDef 3 (T_sure_number)

def T_law_pick (ex : D → S → Prop) : TS S := (sSeq (sRet (eBin opIx (eBor 1) (eCall E.draw ex (aCons (eVar 0) (aCons (eFn fnLen (aCons (eBor 1) aNil)) aNil))))) sNil)
def f_law_pick : FS S := fDef 2 (T_law_pick E)

def T_law_common (ex : D → S → Prop) : TS S := (sSeq (sPar (.val 0 (eFn fnAbs (aCons (eBor 0) aNil)) (.val 1 (eFn fnAbs (aCons (eBor 1) aNil)) .nil))) (sSeq (sWhile (tCmp opNe (eBor 1) (eC (.int 0))) (sSeq (sPar (.val 0 (eVar 1) (.val 1 (eBin opMod (eFn fnInt (aCons (eBor 0) aNil)) (eBor 1)) .nil))) sNil)) (sSeq (sRet (eVar 0)) sNil)))
def f_law_common : FS S := fDef 2 (T_law_common)

def T_law_shuffled (ex : D → S → Prop) : TS S := (sSeq (sPar (.own 2 (eFn fnListA (aCons (eBor 1) aNil)) (.own 3 (eLst aNil) .nil))) (sSeq (sFor (iRng (aCons (eFn fnLen (aCons (eBor 2) aNil)) aNil)) (.nm 4) (sSeq (sAppPop 3 2 (eCall E.draw ex (aCons (eVar 0) (aCons (eFn fnLen (aCons (eBor 2) aNil)) aNil)))) sNil)) (sSeq (sSeq (sFrz 3) (sRet (eVar 3))) sNil)))
def f_law_shuffled : FS S := fDef 5 (T_law_shuffled E)

def T_law_some_of (ex : D → S → Prop) : TS S := (sSeq (sSet 3 (eSlL (eCall (f_law_shuffled E) ex (aCons (eVar 0) (aCons (eLstI (iRng (aCons (eFn fnLen (aCons (eBor 1) aNil)) aNil))) aNil))) oNone (oSome (eBor 2)))) (sSeq (sRet (eLc (iOf (eFn fnSorted (aCons (eBor 3) aNil))) (.nm 4) tYes (eBin opIx (eBor 1) (eBor 4)) [4])) sNil))
def f_law_some_of : FS S := fDef 5 (T_law_some_of E)

def T_law_divided (ex : D → S → Prop) : TS S := (sSeq (sPar (.own 2 (eFn fnListA (aCons (eBor 0) aNil)) (.own 3 (eLst aNil) (.val 4 (eBin opSub (eFn fnLen (aCons (eBor 1) aNil)) (eC (.int 1))) .nil)))) (sSeq (sFor (iRng (aCons (eBin opSub (eFn fnLen (aCons (eBor 2) aNil)) (eC (.int 1))) (aCons (eBin opSub (eBor 4) (eC (.int 1))) (aCons (eUn unNeg (eC (.int 1))) aNil)))) (.nm 5) (sSeq (sSet 6 (eBin opIx (eBor 2) (eBor 5))) (sSeq (sApp 3 (eVar 6)) (sSeq (sFor (iEnum (aCons (eVar 1) aNil)) (.tp [(.nm 7), (.nm 8)]) (sSeq (sPut 2 (eBin opAdd (eBin opSub (eBor 5) (eBor 4)) (eBor 7)) (eBin opSub (eBin opIx (eBor 2) (eBin opAdd (eBin opSub (eBor 5) (eBor 4)) (eBor 7))) (eBin opMulI (eBor 6) (eBor 8)))) sNil)) sNil)))) (sSeq (sRet (eRev (eBor 3))) sNil)))
def f_law_divided : FS S := fDef 9 (T_law_divided)

def T_law_ring_polynomial (ex : D → S → Prop) : TS S := (sSeq (sOwn 1 eNewK) (sSeq (sFor (iRng (aCons (eC (.int 1)) (aCons (eBin opAdd (eBor 0) (eC (.int 1))) aNil))) (.nm 2) (sSeq (sIf (tCmp opEq (eBin opMod (eFn fnInt (aCons (eBor 0) aNil)) (eBor 2)) (eC (.int 0))) (sSeq (sSet 3 (eBin opCat (eBin opCat (eLst (aCons (eUn unNeg (eC (.int 1))) aNil)) (eBin opRep (eLst (aCons (eC (.int 0)) aNil)) (eBin opSub (eBor 2) (eC (.int 1))))) (eLst (aCons (eC (.int 1)) aNil)))) (sSeq (sFor (iOf (eFn fnSorted (aCons (eFn fnListA (aCons (eBor 1) aNil)) aNil))) (.nm 4) (sSeq (sIf (tCmp opEq (eBin opMod (eFn fnInt (aCons (eBor 2) aNil)) (eBor 4)) (eC (.int 0))) (sSeq (sSet 3 (eCall f_law_divided ex (aCons (eVar 3) (aCons (eBin opDget (eBor 1) (eBor 4)) aNil)))) sNil) sNil) sNil)) (sSeq (sDkPut 1 (eBor 2) (eVar 3)) sNil))) sNil) sNil)) (sSeq (sRet (eBin opDget (eBor 1) (eBor 0))) sNil)))
def f_law_ring_polynomial : FS S := fDef 5 (T_law_ring_polynomial)

def T_law_floor (ex : D → S → Prop) : TS S := (sSeq (sPar (.val 1 (eC (.int 1)) (.val 2 (eC (.int 1)) .nil))) (sSeq (sFor (iOf (eVar 0)) (.nm 3) (sSeq (sPar (.val 1 (eBin opMulI (eBor 1) (eBor 3)) (.val 2 (eBin opDiv (eBin opMulI (eBor 2) (eBor 3)) (eCall f_law_common ex (aCons (eVar 2) (aCons (eVar 3) aNil)))) .nil))) sNil)) (sSeq (sSet 4 (eLst (aCons (eTup aNil) aNil))) (sSeq (sFor (iOf (eVar 0)) (.nm 3) (sSeq (sOwn 5 (eLst aNil)) (sSeq (sFor (iOf (eVar 4)) (.nm 6) (sSeq (sExt 5 (eLc (iRng (aCons (eVar 3) aNil)) (.nm 7) tYes (eBin opAdd (eBor 6) (eTup (aCons (eVar 7) aNil))) [7])) sNil)) (sSeq (sSeq (sFrz 5) (sSet 4 (eVar 5))) sNil)))) (sSeq (sRet (eDk ["rings", "n", "e", "poly", "places"] (aCons (eVar 0) (aCons (eVar 1) (aCons (eVar 2) (aCons (eCall f_law_ring_polynomial ex (aCons (eVar 2) aNil)) (aCons (eVar 4) aNil))))))) sNil)))))
def f_law_floor : FS S := fDef 8 (T_law_floor)

def T_law_pairing (ex : D → S → Prop) : TS S := (sSeq (sSet 3 (eBin opDget (eBor 0) (eC (.str "e")))) (sSeq (sRet (eBin opMod (eFn fnInt (aCons (eFn fnSum (aCons (eLc (iZip (aCons (eVar 1) (aCons (eVar 2) (aCons (eBin opDget (eBor 0) (eC (.str "rings"))) aNil)))) (.tp [(.nm 4), (.nm 5), (.nm 6)]) tYes (eBin opMulI (eBin opMulI (eBor 4) (eBor 5)) (eBin opDiv (eBor 3) (eBor 6))) [4, 5, 6]) aNil)) aNil)) (eBor 3))) sNil))
def f_law_pairing : FS S := fDef 7 (T_law_pairing)

def T_law_root (ex : D → S → Prop) : TS S := (sSeq (sPar (.val 1 (eBin opAdd (eBin opPow (eC (.int 10)) (eC (.int 30))) (eC (.int 386001))) (.val 2 (eC (.int 1)) (.val 3 (eC (.int 285064752639868500307534270207)) (.val 4 (eBin opDiv (eC (.int 27720)) (eBor 0)) .nil))))) (sSeq (sFor (iRng (aCons (eC (.int 20)) aNil)) (.nm 5) (sSeq (sIf (tCmp opEq (eBor 4) (eC (.int 0))) (sSeq sBrk sNil) sNil) (sSeq (sIf (tCmp opEq (eBin opMod (eFn fnInt (aCons (eBor 4) aNil)) (eC (.int 2))) (eC (.int 1))) (sSeq (sSet 2 (eBin opMod (eFn fnInt (aCons (eBin opMulI (eBor 2) (eBor 3)) aNil)) (eBor 1))) sNil) sNil) (sSeq (sPar (.val 3 (eBin opMod (eFn fnInt (aCons (eBin opMulI (eBor 3) (eBor 3)) aNil)) (eBor 1)) (.val 4 (eBin opDiv (eBor 4) (eC (.int 2))) .nil))) sNil)))) (sSeq (sRet (eVar 2)) sNil)))
def f_law_root : FS S := fDef 6 (T_law_root)

def T_law_lines (ex : D → S → Prop) : TS S := (sSeq (sPar (.val 3 (eBin opAdd (eBin opPow (eC (.int 10)) (eC (.int 30))) (eC (.int 386001))) (.own 4 (eLst (aCons (eC (.int 1)) aNil)) (.val 5 (eCall f_law_root ex (aCons (eBin opDget (eBor 0) (eC (.str "e"))) aNil)) .nil)))) (sSeq (sFor (iRng (aCons (eBin opSub (eBin opDget (eBor 0) (eC (.str "e"))) (eC (.int 1))) aNil)) (.nm 6) (sSeq (sApp 4 (eBin opMod (eFn fnInt (aCons (eBin opMulI (eBin opIx (eBor 4) (eUn unNeg (eC (.int 1)))) (eBor 5)) aNil)) (eBor 3))) sNil)) (sSeq (sRet (eLc (iOf (eVar 2)) (.nm 8) tYes (eLc (iOf (eVar 1)) (.nm 7) tYes (eBin opIx (eBor 4) (eCall f_law_pairing ex (aCons (eVar 0) (aCons (eVar 7) (aCons (eVar 8) aNil))))) [7]) [8])) sNil)))
def f_law_lines : FS S := fDef 9 (T_law_lines)

def T_law_rank (ex : D → S → Prop) : TS S := (sSeq (sPar (.val 1 (eBin opAdd (eBin opPow (eC (.int 10)) (eC (.int 30))) (eC (.int 386001))) (.val 2 (eLc (iOf (eVar 0)) (.nm 4) tYes (eFn fnListA (aCons (eBor 4) aNil)) [4]) (.val 3 (eC (.int 0)) .nil)))) (sSeq (sFor (iRng (aCons (eIf (tCmp opNe (eBor 2) (eLst aNil)) (eFn fnLen (aCons (eBin opIx (eBor 2) (eC (.int 0))) aNil)) (eC (.int 0))) aNil)) (.nm 5) (sSeq (sSet 6 (eLc (iEnum (aCons (eVar 2) aNil)) (.tp [(.nm 7), (.nm 4)]) (tCmp opNe (eBin opIx (eBor 4) (eBor 5)) (eC (.int 0))) (eVar 7) [7, 4])) (sSeq (sIf (tCmp opEq (eBor 6) (eLst aNil)) (sSeq sCnt sNil) sNil) (sSeq (sPar (.val 8 (eBin opIx (eBor 2) (eBin opIx (eBor 6) (eC (.int 0)))) (.own 9 (eLst aNil) (.val 3 (eBin opAdd (eBor 3) (eC (.int 1))) .nil)))) (sSeq (sFor (iOf (eBin opCat (eSlL (eBor 2) oNone (oSome (eBin opIx (eBor 6) (eC (.int 0))))) (eSlL (eBor 2) (oSome (eBin opAdd (eBin opIx (eBor 6) (eC (.int 0))) (eC (.int 1)))) oNone))) (.nm 4) (sSeq (sPar (.val 10 (eBin opIx (eBor 8) (eBor 5)) (.val 11 (eBin opIx (eBor 4) (eBor 5)) .nil))) (sSeq (sApp 9 (eIf (tCmp opEq (eBor 11) (eC (.int 0))) (eVar 4) (eLc (iZip (aCons (eVar 8) (aCons (eVar 4) aNil))) (.tp [(.nm 12), (.nm 13)]) tYes (eBin opMod (eFn fnInt (aCons (eBin opSub (eBin opMulI (eBor 10) (eBor 13)) (eBin opMulI (eBor 11) (eBor 12))) aNil)) (eBor 1)) [12, 13]))) sNil))) (sSeq (sSeq (sFrz 9) (sSet 2 (eVar 9))) (sSeq (sIf (tCmp opEq (eBor 2) (eLst aNil)) (sSeq sBrk sNil) sNil) sNil))))))) (sSeq (sRet (eVar 3)) sNil)))
def f_law_rank : FS S := fDef 14 (T_law_rank)

def T_law_least (ex : D → S → Prop) : TS S := (sSeq (sOwn 2 (eLst aNil)) (sSeq (sFor (iRng (aCons (eC (.int 1)) (aCons (eBin opAdd (eBor 0) (eC (.int 1))) aNil))) (.nm 3) (sSeq (sFor (iOf (eTup (aCons (eC (.int 2)) (aCons (eC (.int 3)) (aCons (eC (.int 5)) (aCons (eC (.int 7)) (aCons (eC (.int 11)) (aCons (eC (.int 13)) (aCons (eC (.int 17)) (aCons (eC (.int 19)) (aCons (eC (.int 23)) (aCons (eC (.int 29)) (aCons (eC (.int 31)) (aCons (eC (.int 37)) (aCons (eC (.int 41)) (aCons (eC (.int 43)) (aCons (eC (.int 47)) (aCons (eC (.int 53)) (aCons (eC (.int 59)) aNil))))))))))))))))))) (.nm 4) (sSeq (sIf (tCmp opEq (eBin opMod (eFn fnInt (aCons (eBor 0) aNil)) (eBin opMulI (eBor 3) (eBor 4))) (eC (.int 0))) (sSeq (sExt 2 (eLc (iRng (aCons (eC (.int 1)) (aCons (eBin opAdd (eBor 4) (eC (.int 1))) aNil))) (.nm 5) (tCmp opLe (eBin opMulI (eBor 3) (eBor 5)) (eBor 1)) (eBin opMulI (eBin opDiv (eBor 0) (eBin opMulI (eBor 3) (eBor 4))) (eBin opSub (eBin opAdd (eBor 4) (eC (.int 1))) (eBor 5))) [5])) sNil) sNil) sNil)) sNil)) (sSeq (sRet (eFn fnMin1 (aCons (eBor 2) aNil))) sNil)))
def f_law_least : FS S := fDef 6 (T_law_least)

def T_law_lots_of (ex : D → S → Prop) : TS S := (sSeq (sSet 2 (eLst (aCons (eTup aNil) aNil))) (sSeq (sFor (iRng (aCons (eVar 1) aNil)) (.nm 3) (sSeq (sOwn 4 (eLst aNil)) (sSeq (sFor (iOf (eVar 2)) (.nm 5) (sSeq (sSet 6 (eIf (tCmp opNe (eBor 5) (eTup aNil)) (eBin opAdd (eMeL opIdx (eBor 0) (eBin opIx (eBor 5) (eUn unNeg (eC (.int 1))))) (eC (.int 1))) (eC (.int 0)))) (sSeq (sExt 4 (eLc (iOf (eSlL (eBor 0) (oSome (eBor 6)) oNone)) (.nm 7) tYes (eBin opAdd (eBor 5) (eTup (aCons (eVar 7) aNil))) [7])) sNil))) (sSeq (sSeq (sFrz 4) (sSet 2 (eVar 4))) sNil)))) (sSeq (sRet (eVar 2)) sNil)))
def f_law_lots_of : FS S := fDef 8 (T_law_lots_of)

def T_law_tells (ex : D → S → Prop) : TS S := (sSeq (sPar (.val 4 (eFn fnMin2 (aCons (eBin opMulI (eC (.int 2)) (eBor 2)) (aCons (eBin opDget (eBor 0) (eC (.str "n"))) aNil))) (.val 5 (eFn fnMin2 (aCons (eBin opMulI (eC (.int 2)) (eBor 3)) (aCons (eFn fnLen (aCons (eBor 1) aNil)) aNil))) .nil))) (sSeq (sIf (tCmp opLt (eBin opSub (eFn fnLen (aCons (eBor 1) aNil)) (eBor 5)) (eBor 4)) (sSeq (sRet (eC (.bl false))) sNil) sNil) (sSeq (sPar (.val 6 (eBin opIx (eBin opDget (eBor 0) (eC (.str "places"))) (eC (.int 0))) (.val 7 (eCall f_law_lots_of ex (aCons (eFn fnListA (aCons (eBor 1) aNil)) (aCons (eBin opSub (eFn fnLen (aCons (eBor 1) aNil)) (eBor 5)) aNil))) .nil))) (sSeq (sFor (iOf (eCall f_law_lots_of ex (aCons (eSlL (eBin opDget (eBor 0) (eC (.str "places"))) (oSome (eC (.int 1))) oNone) (aCons (eBin opSub (eBor 4) (eC (.int 1))) aNil)))) (.nm 8) (sSeq (sSet 9 (eBin opAdd (eTup (aCons (eVar 6) aNil)) (eBor 8))) (sSeq (sFor (iOf (eVar 7)) (.nm 10) (sSeq (sIf (tCmp opLt (eCall f_law_rank ex (aCons (eCall f_law_lines ex (aCons (eVar 0) (aCons (eVar 9) (aCons (eVar 10) aNil)))) aNil)) (eBor 4)) (sSeq (sRet (eC (.bl false))) sNil) sNil) sNil)) sNil))) (sSeq (sRet (eC (.bl true))) sNil)))))
def f_law_tells : FS S := fDef 11 (T_law_tells)

def T_law_tiny_floor (ex : D → S → Prop) : TS S := (sSeq (sSet 1 (eLst (aCons (eTup (aCons (eC (.int 4)) aNil)) (aCons (eTup (aCons (eC (.int 5)) aNil)) (aCons (eTup (aCons (eC (.int 6)) aNil)) (aCons (eTup (aCons (eC (.int 2)) (aCons (eC (.int 2)) aNil))) (aCons (eTup (aCons (eC (.int 3)) aNil)) (aCons (eTup (aCons (eC (.int 2)) (aCons (eC (.int 3)) aNil))) (aCons (eTup (aCons (eC (.int 5)) aNil)) (aCons (eTup (aCons (eC (.int 6)) aNil)) (aCons (eTup (aCons (eC (.int 2)) aNil)) (aCons (eTup (aCons (eC (.int 3)) (aCons (eC (.int 2)) aNil))) (aCons (eTup (aCons (eC (.int 4)) aNil)) (aCons (eTup (aCons (eC (.int 5)) aNil)) aNil)))))))))))))) (sSeq (sRet (eCall f_law_floor ex (aCons (eIf (tCmp opGt (eCall E.draw ex (aCons (eVar 0) (aCons (eC (.int 6)) aNil))) (eC (.int 0))) (eCall (f_law_pick E) ex (aCons (eVar 0) (aCons (eVar 1) aNil))) (eCall (f_law_pick E) ex (aCons (eVar 0) (aCons (eLst (aCons (eTup (aCons (eC (.int 7)) aNil)) (aCons (eTup (aCons (eC (.int 8)) aNil)) (aCons (eTup (aCons (eC (.int 2)) (aCons (eC (.int 4)) aNil))) (aCons (eTup (aCons (eC (.int 2)) (aCons (eC (.int 2)) (aCons (eC (.int 2)) aNil)))) aNil))))) aNil)))) aNil))) sNil))
def f_law_tiny_floor : FS S := fDef 2 (T_law_tiny_floor E)

def T_law_sure (ex : D → S → Prop) : TS S := (sSeq (sSet 3 (eBin opAdd (eBin opSub (eBin opAdd (eBor 0) (eC (.int 1))) (eCall f_law_least ex (aCons (eVar 0) (aCons (eFn fnMin2 (aCons (eBin opMulI (eC (.int 2)) (eBor 1)) (aCons (eBor 0) aNil))) aNil)))) (eBin opMulI (eC (.int 2)) (eBor 2)))) (sSeq (sRet (eIf (tCmp opLe (eBor 3) (eBor 0)) (eVar 3) (eC .non))) sNil))
def f_law_sure : FS S := fDef 4 (T_law_sure)

def T_law_is_small_right (ex : D → S → Prop) : TS S := (sSeq (sSet 1 (eCall (f_law_tiny_floor E) ex (aCons (eVar 0) aNil))) (sSeq (sIf (tCmp opGt (eBin opDget (eBor 1) (eC (.str "n"))) (eC (.int 6))) (sSeq (sSet 1 (eCall f_law_floor ex (aCons (eCall (f_law_pick E) ex (aCons (eVar 0) (aCons (eLst (aCons (eTup (aCons (eC (.int 6)) aNil)) (aCons (eTup (aCons (eC (.int 2)) (aCons (eC (.int 3)) aNil))) (aCons (eTup (aCons (eC (.int 5)) aNil)) aNil)))) aNil))) aNil))) sNil) sNil) (sSeq (sPar (.val 2 (eBin opDget (eBor 1) (eC (.str "rings"))) (.val 3 (eBin opDget (eBor 1) (eC (.str "n"))) .nil))) (sSeq (sPar (.val 4 (eBin opAdd (eC (.int 1)) (eCall E.draw ex (aCons (eVar 0) (aCons (eIf (tCmp opGt (eBor 3) (eC (.int 3))) (eC (.int 2)) (eC (.int 1))) aNil)))) (.val 5 (eCall (f_law_pick E) ex (aCons (eVar 0) (aCons (eLst (aCons (eC (.int 0)) (aCons (eC (.int 0)) (aCons (eC (.int 1)) aNil)))) aNil))) .nil))) (sSeq (sSet 6 (eCall f_sure_number ex (aCons (eVar 2) (aCons (eVar 4) (aCons (eVar 5) aNil))))) (sSeq (sIf (tCmp opNe (eFn fnRepr (aCons (eBor 6) aNil)) (eFn fnRepr (aCons (eCall f_law_sure ex (aCons (eVar 3) (aCons (eVar 4) (aCons (eVar 5) aNil)))) aNil))) (sSeq (sRet (eC (.bl false))) sNil) sNil) (sSeq (sIf (tCmp opIsN (eBor 6) (eC .non)) (sSeq (sRet (eBin opIsB (eCall f_does_tell ex (aCons (eVar 2) (aCons (eFn fnTuple (aCons (eBin opDget (eBor 1) (eC (.str "places"))) aNil)) (aCons (eVar 4) (aCons (eVar 5) aNil))))) (eC (.bl false)))) sNil) sNil) (sSeq (sSet 7 (eFn fnTuple (aCons (eCall (f_law_some_of E) ex (aCons (eVar 0) (aCons (eBin opDget (eBor 1) (eC (.str "places"))) (aCons (eVar 6) aNil)))) aNil))) (sSeq (sIf (tCmp opIsNotB (eCall f_does_tell ex (aCons (eVar 2) (aCons (eVar 7) (aCons (eVar 4) (aCons (eVar 5) aNil))))) (eC (.bl true))) (sSeq (sRet (eC (.bl false))) sNil) sNil) (sSeq (sFor (iOf (eCall f_law_lots_of ex (aCons (eBin opDget (eBor 1) (eC (.str "places"))) (aCons (eBin opSub (eBor 6) (eC (.int 1))) aNil)))) (.nm 8) (sSeq (sIf (tNot (tOf (eCall f_law_tells ex (aCons (eVar 1) (aCons (eVar 8) (aCons (eVar 4) (aCons (eVar 5) aNil))))))) (sSeq (sRet (eBin opIsB (eCallK f_does_tell ex (pick [3, 2, 1, 0]) (aApp aNil (aCons (eVar 5) (aCons (eVar 4) (aCons (eVar 8) (aCons (eVar 2) aNil)))))) (eC (.bl false)))) sNil) sNil) sNil)) (sSeq (sRet (eC (.bl false))) sNil)))))))))))
def f_law_is_small_right : FS S := fDef 9 (T_law_is_small_right E)

def T_law (ex : D → S → Prop) : TS S := (sSeq (sSet 1 (eCall E.deck ex (aCons (eVar 0) aNil))) (sSeq (sFor (iRng (aCons (eC (.int 3)) aNil)) (.nm 2) (sSeq (sSet 3 (eCall (f_law_pick E) ex (aCons (eVar 1) (aCons (eLst (aCons (eTup (aCons (eC (.int 6)) aNil)) (aCons (eTup (aCons (eC (.int 12)) aNil)) (aCons (eTup (aCons (eC (.int 2)) (aCons (eC (.int 4)) aNil))) (aCons (eTup (aCons (eC (.int 7)) aNil)) (aCons (eTup (aCons (eC (.int 60)) aNil)) (aCons (eTup (aCons (eC (.int 3)) (aCons (eC (.int 3)) aNil))) (aCons (eTup (aCons (eC (.int 30)) (aCons (eC (.int 2)) aNil))) (aCons (eTup (aCons (eC (.int 36)) aNil)) (aCons (eTup (aCons (eC (.int 59)) aNil)) (aCons (eTup (aCons (eC (.int 4)) (aCons (eC (.int 15)) aNil))) (aCons (eTup (aCons (eC (.int 2)) (aCons (eC (.int 3)) (aCons (eC (.int 5)) aNil)))) (aCons (eTup (aCons (eC (.int 50)) aNil)) (aCons (eTup (aCons (eC (.int 8)) aNil)) (aCons (eTup (aCons (eC (.int 13)) aNil)) aNil))))))))))))))) aNil)))) (sSeq (sSet 4 (eC (.int 1))) (sSeq (sFor (iOf (eVar 3)) (.nm 5) (sSeq (sSet 4 (eBin opMulI (eBor 4) (eBor 5))) sNil)) (sSeq (sPar (.val 6 (eBin opAdd (eC (.int 1)) (eCall E.draw ex (aCons (eVar 1) (aCons (eVar 4) aNil)))) (.val 7 (eCall (f_law_pick E) ex (aCons (eVar 1) (aCons (eLst (aCons (eC (.int 0)) (aCons (eC (.int 1)) (aCons (eC (.int 0)) (aCons (eC (.int 2)) (aCons (eVar 4) (aCons (eBin opPow (eC (.int 10)) (eC (.int 20))) aNil))))))) aNil))) .nil))) (sSeq (sSet 6 (eIf (tCmp opEq (eCall E.draw ex (aCons (eVar 1) (aCons (eC (.int 2)) aNil))) (eC (.int 0))) (eFn fnMin2 (aCons (eBor 6) (aCons (eBin opAdd (eC (.int 1)) (eCall E.draw ex (aCons (eVar 1) (aCons (eC (.int 4)) aNil)))) aNil))) (eVar 6))) (sSeq (sSet 8 (eLst (aCons (eCall f_sure_number ex (aCons (eVar 3) (aCons (eVar 6) (aCons (eVar 7) aNil)))) (aCons (eCallK f_sure_number ex (pick [2, 1, 0]) (aApp aNil (aCons (eVar 7) (aCons (eVar 6) (aCons (eVar 3) aNil))))) (aCons (eCall f_sure_number ex (aCons (eRevT (eBor 3)) (aCons (eVar 6) (aCons (eVar 7) aNil)))) aNil))))) (sSeq (sIf (tCmp opNe (eFn fnRepr (aCons (eBor 8) aNil)) (eFn fnRepr (aCons (eBin opRep (eLst (aCons (eCall f_law_sure ex (aCons (eVar 4) (aCons (eVar 6) (aCons (eVar 7) aNil)))) aNil)) (eC (.int 3))) aNil))) (sSeq (sRet (eC (.bl false))) sNil) sNil) sNil)))))))) (sSeq (sRet (eCall (f_law_is_small_right E) ex (aCons (eVar 1) aNil))) sNil)))
def f_law : FS S := fDef 9 (T_law E)

end K31

end
section
set_option maxRecDepth 100000
set_option maxHeartbeats 4000000
set_option linter.all false
set_option autoImplicit false
namespace K31
open PySem L2 DL

def top (i : Nat) : Stmt := PySem.Challenge.pw_ringvoices_k31_whole_numbers_of_labels_t.main.body.getD i (.Pass ⟨0, 0, 0, 0⟩)
structure Txt (K : PySem.W.Frag) (mg : PySem.Str → Option Value) : Prop where
  z_abs : mg "abs" = none
  z_all : mg "all" = none
  z_bool : mg "bool" = none
  z_enumerate : mg "enumerate" = none
  z_int : mg "int" = none
  z_isinstance : mg "isinstance" = none
  z_len : mg "len" = none
  z_list : mg "list" = none
  z_max : mg "max" = none
  z_min : mg "min" = none
  z_range : mg "range" = none
  z_repr : mg "repr" = none
  z_sorted : mg "sorted" = none
  z_sum : mg "sum" = none
  z_tuple : mg "tuple" = none
  z_zip : mg "zip" = none
  c_MOST_RINGS : ∃ tk, mg "MOST_RINGS" = some (.int 4 tk)
  c_MOST_SIZE : ∃ tk, mg "MOST_SIZE" = some (.int 60 tk)
  c_PRIME : ∃ tk, mg "PRIME" = some (.int 1000000000000002961 tk)
  c_ROOT : ∃ tk, mg "ROOT" = some (.int 989038565289215304 tk)
  c_ROUND : ∃ tk, mg "ROUND" = some (.int 840 tk)
  g_combinations : mg "combinations" = some (.type "itertools.combinations")
  g_gcd : mg "gcd" = some (.builtin "math.gcd")
variable {P : Program} {w : World} {K : PySem.W.Frag} {mg : PySem.Str → Option Value} {base : Heap} {E : Ext Hp}
theorem sc_primes_of : FnScope ["e", "found", "part"] ["e"] (defScope (top 8)) := ⟨rfl, rfl, rfl, by decide +kernel, rfl, by decide +kernel, by decide +kernel⟩
theorem ok_primes_of {f : Addr} {fd : FuncData} (F : Fun K "primes_of" "primes_of" (top 8) f fd) (T : Txt K mg)  : FnOk P w K mg base CX0 1 f fd ["e"] (spOf K 1 f_primes_of) :=
  fn_ok (T := T_primes_of) F sc_primes_of fun cdv A outer s H _ ex hr => (dss_cons (by first | exact ds_par2 (i := 1) (j := 2) (dp_own (i := 1) (df_lst da_nil) (dp_val (i := 2) de_int dp_nil)) sc_primes_of.nd (by decide) | exact ds_parT (dp_own (i := 1) (df_lst da_nil) (dp_val (i := 2) de_int dp_nil)) (pg_tup rfl (pgs_cons (pg_name (i := 1) sc_primes_of.nd rfl (by first | exact Or.inl rfl | exact Or.inr rfl)) (pgs_cons (pg_name (i := 2) sc_primes_of.nd rfl (by first | exact Or.inl rfl | exact Or.inr rfl)) pgs_nil)))) (dss_cons (ds_while (dt_cmp (o_gt hr.units) (db_var (i := 0)) (DE.db de_int)) (dss_cons (ds_while (dt_cmp (o_eq hr.units) (DE.db (de_bin o_mod (db_var (i := 0)) (db_var (i := 2)))) (DE.db de_int)) (dss_cons (ds_app (i := 1) (de_var (i := 2))) (dss_cons (ds_set (i := 0) (de_bin o_div (db_var (i := 0)) (db_var (i := 2))) sc_primes_of.nd) dss_nil))) (dss_cons (ds_aug (i := 2) i_inc (DE.db de_int) sc_primes_of.nd) dss_nil))) (dss_cons (ds_frz 1 (ds_ret (de_var (i := 1)))) dss_nil)))
theorem sc_is_integer : FnScope ["thing"] ["thing"] (defScope (top 9)) := ⟨rfl, rfl, rfl, by decide +kernel, rfl, by decide +kernel, by decide +kernel⟩
theorem ok_is_integer {f : Addr} {fd : FuncData} (F : Fun K "is_integer" "is_integer" (top 9) f fd) (T : Txt K mg)  : FnOk P w K mg base CX0 1 f fd ["thing"] (spOf K 1 f_is_integer) :=
  fn_ok (T := T_is_integer) F sc_is_integer fun cdv A outer s H _ ex hr => (dss_cons (ds_ret (de_and (o_isi (db_var (i := 0)) isi_int T.z_isinstance T.z_int bt_int bt_isinstance) (de_one (de_not (DE.db (o_isi (db_var (i := 0)) isi_bool T.z_isinstance T.z_bool bt_bool bt_isinstance)))))) dss_nil)
theorem sc_are_integers : FnScope ["thing", "part"] ["thing"] (defScope (top 10)) := ⟨rfl, rfl, rfl, by decide +kernel, rfl, by decide +kernel, by decide +kernel⟩
theorem ok_are_integers {f : Addr} {fd : FuncData} (F : Fun K "are_integers" "are_integers" (top 10) f fd) (T : Txt K mg) (H_is_integer : Has P w K mg base "is_integer" 1 ["thing"] f_is_integer) : FnOk P w K mg base CX0 2 f fd ["thing"] (spOf K 1 f_are_integers) :=
  fn_ok (T := T_are_integers) F sc_are_integers fun cdv A outer s H _ ex hr => (dss_cons (ds_ret (de_and (o_isi (db_var (i := 0)) isi_tuple T.z_isinstance T.z_tuple bt_tuple bt_isinstance) (de_one (de_fnB (f_all rfl) T.z_all bt_all (dab_cons (DE.db (DF.de (df_lc (own := [("part", 1)]) (p := (.nm 1)) (di_of (de_var (i := 0))) (blkOk_by (N := ["thing", "part"]) (sc := defScope (top 10)) (by decide +kernel)) sc_are_integers.nd (fun _ _ _ _ _ => (pg_name (i := 1) sc_are_integers.nd rfl (by first | exact Or.inl rfl | exact Or.inr rfl))) (fun _ _ _ _ _ => dts_nil) (fun _ _ _ _ _ => (de_callH H_is_integer (hr.mono (by decide)) (da_cons (de_var (i := 1)) da_nil)))))) dab_nil))))) dss_nil)
theorem sc_size : FnScope ["rings", "found", "length"] ["rings"] (defScope (top 20)) := ⟨rfl, rfl, rfl, by decide +kernel, rfl, by decide +kernel, by decide +kernel⟩
theorem ok_size {f : Addr} {fd : FuncData} (F : Fun K "size" "size" (top 20) f fd) (T : Txt K mg)  : FnOk P w K mg base CX0 1 f fd ["rings"] (spOf K 1 f_size) :=
  fn_ok (T := T_size) F sc_size fun cdv A outer s H _ ex hr => (dss_cons (ds_set (i := 1) de_int sc_size.nd) (dss_cons (ds_for (p := (.nm 2)) (di_of (de_var (i := 0))) (pg_name (i := 2) sc_size.nd rfl (by first | exact Or.inl rfl | exact Or.inr rfl)) (dss_cons (ds_set (i := 1) (de_bin o_mulI (db_var (i := 1)) (db_var (i := 2))) sc_size.nd) dss_nil)) (dss_cons (ds_ret (de_var (i := 1))) dss_nil)))
theorem sc_are_rings_value : FnScope ["thing", "length"] ["thing"] (defScope (top 14)) := ⟨rfl, rfl, rfl, by decide +kernel, rfl, by decide +kernel, by decide +kernel⟩
theorem ok_are_rings_value {f : Addr} {fd : FuncData} (F : Fun K "are_rings_value" "are_rings_value" (top 14) f fd) (T : Txt K mg) (H_are_integers : Has P w K mg base "are_integers" 2 ["thing"] f_are_integers) (H_size : Has P w K mg base "size" 1 ["rings"] f_size) : FnOk P w K mg base CX0 3 f fd ["thing"] (spOf K 1 f_are_rings_value) :=
  fn_ok (T := T_are_rings_value) F sc_are_rings_value fun cdv A outer s H _ ex hr => (dss_cons (ds_if (DW.dt (dw_or (dt_not (dt_truth (DE.db (de_callH H_are_integers (hr.mono (by decide)) (da_cons (de_var (i := 0)) da_nil))))) (dw_or1 (dt_not (dt_chain (o_le hr.units) (o_le hr.units) (DE.db de_int) (DE.db (de_fnB (f_len) T.z_len bt_len (dab_cons (db_var (i := 0)) dab_nil))) (DE.db (de_glI T.c_MOST_RINGS.choose_spec))))))) (dss_cons (ds_ret de_bl) dss_nil) dss_nil) (dss_cons (ds_ret (de_and (de_fnB (f_all rfl) T.z_all bt_all (dab_cons (DE.db (DF.de (df_lc (own := [("length", 1)]) (p := (.nm 1)) (di_of (de_var (i := 0))) (blkOk_by (N := ["thing", "length"]) (sc := defScope (top 14)) (by decide +kernel)) sc_are_rings_value.nd (fun _ _ _ _ _ => (pg_name (i := 1) sc_are_rings_value.nd rfl (by first | exact Or.inl rfl | exact Or.inr rfl))) (fun _ _ _ _ _ => dts_nil) (fun _ _ _ _ _ => (de_chain (o_le hr.units) (o_le hr.units) (DE.db de_int) (db_var (i := 1)) (DE.db (de_glI T.c_MOST_SIZE.choose_spec))))))) dab_nil)) (de_one (de_cmp (o_le hr.units) (DE.db (de_callH H_size (hr.mono (by decide)) (da_cons (de_var (i := 0)) da_nil))) (DE.db (de_glI T.c_MOST_SIZE.choose_spec)))))) dss_nil))
theorem sc_is_place_value : FnScope ["rings", "thing", "item", "length"] ["rings", "thing"] (defScope (top 15)) := ⟨rfl, rfl, rfl, by decide +kernel, rfl, by decide +kernel, by decide +kernel⟩
theorem ok_is_place_value {f : Addr} {fd : FuncData} (F : Fun K "is_place_value" "is_place_value" (top 15) f fd) (T : Txt K mg) (H_are_integers : Has P w K mg base "are_integers" 2 ["thing"] f_are_integers) : FnOk P w K mg base CX0 3 f fd ["rings", "thing"] (spOf K 2 f_is_place_value) :=
  fn_ok (T := T_is_place_value) F sc_is_place_value fun cdv A outer s H _ ex hr => (dss_cons (ds_if (DW.dt (dw_or (dt_not (dt_truth (DE.db (de_callH H_are_integers (hr.mono (by decide)) (da_cons (de_var (i := 1)) da_nil))))) (dw_or1 (dt_cmp (o_ne hr.units) (DE.db (de_fnB (f_len) T.z_len bt_len (dab_cons (db_var (i := 1)) dab_nil))) (DE.db (de_fnB (f_len) T.z_len bt_len (dab_cons (db_var (i := 0)) dab_nil))))))) (dss_cons (ds_ret de_bl) dss_nil) dss_nil) (dss_cons (ds_ret (de_fnB (f_all rfl) T.z_all bt_all (dab_cons (DE.db (DF.de (df_lc (own := [("item", 2), ("length", 3)]) (p := (.tp [(.nm 2), (.nm 3)])) (di_zip2 (de_var (i := 1)) (de_var (i := 0)) T.z_zip) (blkOk_by (N := ["rings", "thing", "item", "length"]) (sc := defScope (top 15)) (by decide +kernel)) sc_is_place_value.nd (fun _ _ _ _ _ => (pg_tup rfl (pgs_cons (pg_name (i := 2) sc_is_place_value.nd rfl (by first | exact Or.inl rfl | exact Or.inr rfl)) (pgs_cons (pg_name (i := 3) sc_is_place_value.nd rfl (by first | exact Or.inl rfl | exact Or.inr rfl)) pgs_nil)))) (fun _ _ _ _ _ => dts_nil) (fun _ _ _ _ _ => (de_chain (o_le hr.units) (o_lt hr.units) (DE.db de_int) (db_var (i := 2)) (db_var (i := 3))))))) dab_nil))) dss_nil))
theorem sc_is_lot_value : FnScope ["rings", "thing", "place", "other"] ["rings", "thing"] (defScope (top 16)) := ⟨rfl, rfl, rfl, by decide +kernel, rfl, by decide +kernel, by decide +kernel⟩
theorem ok_is_lot_value {f : Addr} {fd : FuncData} (F : Fun K "is_lot_value" "is_lot_value" (top 16) f fd) (T : Txt K mg) (H_is_place_value : Has P w K mg base "is_place_value" 3 ["rings", "thing"] f_is_place_value) : FnOk P w K mg base CX0 4 f fd ["rings", "thing"] (spOf K 2 f_is_lot_value) :=
  fn_ok (T := T_is_lot_value) F sc_is_lot_value fun cdv A outer s H _ ex hr => (dss_cons (ds_if (DW.dt (dw_or (dt_not (dt_truth (DE.db (o_isi (db_var (i := 1)) isi_tuple T.z_isinstance T.z_tuple bt_tuple bt_isinstance)))) (dw_or1 (dt_not (dt_truth (DE.db (de_fnB (f_all rfl) T.z_all bt_all (dab_cons (DE.db (DF.de (df_lc (own := [("place", 2)]) (p := (.nm 2)) (di_of (de_var (i := 1))) (blkOk_by (N := ["rings", "thing", "place", "other"]) (sc := defScope (top 16)) (by decide +kernel)) sc_is_lot_value.nd (fun _ _ _ _ _ => (pg_name (i := 2) sc_is_lot_value.nd rfl (by first | exact Or.inl rfl | exact Or.inr rfl))) (fun _ _ _ _ _ => dts_nil) (fun _ _ _ _ _ => (de_callH H_is_place_value (hr.mono (by decide)) (da_cons (de_var (i := 0)) (da_cons (de_var (i := 2)) da_nil))))))) dab_nil)))))))) (dss_cons (ds_ret de_bl) dss_nil) dss_nil) (dss_cons (ds_ret (de_fnB (f_all rfl) T.z_all bt_all (dab_cons (DE.db (DF.de (df_lc (own := [("place", 2), ("other", 3)]) (p := (.tp [(.nm 2), (.nm 3)])) (di_zip2 (de_var (i := 1)) (de_slT (de_var (i := 1)) (do_some (DE.db de_int)) do_none) T.z_zip) (blkOk_by (N := ["rings", "thing", "place", "other"]) (sc := defScope (top 16)) (by decide +kernel)) sc_is_lot_value.nd (fun _ _ _ _ _ => (pg_tup rfl (pgs_cons (pg_name (i := 2) sc_is_lot_value.nd rfl (by first | exact Or.inl rfl | exact Or.inr rfl)) (pgs_cons (pg_name (i := 3) sc_is_lot_value.nd rfl (by first | exact Or.inl rfl | exact Or.inr rfl)) pgs_nil)))) (fun _ _ _ _ _ => dts_nil) (fun _ _ _ _ _ => (de_cmp (o_lt hr.units) (db_var (i := 2)) (db_var (i := 3))))))) dab_nil))) dss_nil))
theorem sc_need_rings : FnScope ["rings"] ["rings"] (defScope (top 17)) := ⟨rfl, rfl, rfl, by decide +kernel, rfl, by decide +kernel, by decide +kernel⟩
theorem ok_need_rings {f : Addr} {fd : FuncData} (F : Fun K "need_rings" "need_rings" (top 17) f fd) (T : Txt K mg) (H_are_rings_value : Has P w K mg base "are_rings_value" 3 ["thing"] f_are_rings_value) : FnOk P w K mg base CX0 4 f fd ["rings"] (spOf K 1 f_need_rings) :=
  fn_ok (T := T_need_rings) F sc_need_rings fun cdv A outer s H _ ex hr => (dss_cons (ds_if (dt_not (dt_truth (DE.db (de_callH H_are_rings_value (hr.mono (by decide)) (da_cons (de_var (i := 0)) da_nil))))) (dss_cons ds_never dss_nil) dss_nil) dss_nil)
theorem sc_need_lot : FnScope ["rings", "places"] ["rings", "places"] (defScope (top 18)) := ⟨rfl, rfl, rfl, by decide +kernel, rfl, by decide +kernel, by decide +kernel⟩
theorem ok_need_lot {f : Addr} {fd : FuncData} (F : Fun K "need_lot" "need_lot" (top 18) f fd) (T : Txt K mg) (H_is_lot_value : Has P w K mg base "is_lot_value" 4 ["rings", "thing"] f_is_lot_value) : FnOk P w K mg base CX0 5 f fd ["rings", "places"] (spOf K 2 f_need_lot) :=
  fn_ok (T := T_need_lot) F sc_need_lot fun cdv A outer s H _ ex hr => (dss_cons (ds_if (dt_not (dt_truth (DE.db (de_callH H_is_lot_value (hr.mono (by decide)) (da_cons (de_var (i := 0)) (da_cons (de_var (i := 1)) da_nil)))))) (dss_cons ds_never dss_nil) dss_nil) dss_nil)
theorem sc_need_count : FnScope ["thing", "least", "most"] ["thing", "least", "most"] (defScope (top 19)) := ⟨rfl, rfl, rfl, by decide +kernel, rfl, by decide +kernel, by decide +kernel⟩
theorem ok_need_count {f : Addr} {fd : FuncData} (F : FunD K "need_count" "need_count" (defArgs (top 19)) (defBody (top 19)) (defScope (top 19)) [V.non] [] f fd) (T : Txt K mg) (H_is_integer : Has P w K mg base "is_integer" 1 ["thing"] f_is_integer) : FnOk P w K mg base CX0 2 f fd ["thing", "least", "most"] (spOf K 3 f_need_count) :=
  fn_okD (T := T_need_count) F sc_need_count fun cdv A outer s H _ ex hr => (dss_cons (ds_if (DW.dt (dw_or (dt_not (dt_truth (DE.db (de_callH H_is_integer (hr.mono (by decide)) (da_cons (de_var (i := 0)) da_nil))))) (dw_or (dt_cmp (o_lt hr.units) (db_var (i := 0)) (db_var (i := 1))) (dw_or1 (DW.dt (dw_and (dt_cmp o_notN (db_var (i := 2)) (DE.db de_non)) (dw_and1 (dt_cmp (o_gt hr.units) (db_var (i := 0)) (db_var (i := 2)))))))))) (dss_cons ds_never dss_nil) dss_nil) dss_nil)
theorem sc_order : FnScope ["rings", "found", "length"] ["rings"] (defScope (top 21)) := ⟨rfl, rfl, rfl, by decide +kernel, rfl, by decide +kernel, by decide +kernel⟩
theorem ok_order {f : Addr} {fd : FuncData} (F : Fun K "order" "order" (top 21) f fd) (T : Txt K mg)  : FnOk P w K mg base CX0 1 f fd ["rings"] (spOf K 1 f_order) :=
  fn_ok (T := T_order) F sc_order fun cdv A outer s H _ ex hr => (dss_cons (ds_set (i := 1) de_int sc_order.nd) (dss_cons (ds_for (p := (.nm 2)) (di_of (de_var (i := 0))) (pg_name (i := 2) sc_order.nd rfl (by first | exact Or.inl rfl | exact Or.inr rfl)) (dss_cons (ds_set (i := 1) (de_bin o_mulI (DE.db (de_bin o_div (db_var (i := 1)) (DE.db (de_fnM f_gcd T.g_gcd (dab_cons (db_var (i := 1)) (dab_cons (db_var (i := 2)) dab_nil)))))) (db_var (i := 2))) sc_order.nd) dss_nil)) (dss_cons (ds_ret (de_var (i := 1))) dss_nil)))
theorem sc_places_of : FnScope ["rings", "found", "length", "place", "item"] ["rings"] (defScope (top 22)) := ⟨rfl, rfl, rfl, by decide +kernel, rfl, by decide +kernel, by decide +kernel⟩
theorem ok_places_of {f : Addr} {fd : FuncData} (F : Fun K "places_of" "places_of" (top 22) f fd) (T : Txt K mg)  : FnOk P w K mg base CX0 1 f fd ["rings"] (spOf K 1 f_places_of) :=
  fn_ok (T := T_places_of) F sc_places_of fun cdv A outer s H _ ex hr => (dss_cons (ds_set (i := 1) (DF.de (df_lst (da_cons (de_tup da_nil) da_nil))) sc_places_of.nd) (dss_cons (ds_for (p := (.nm 2)) (di_of (de_var (i := 0))) (pg_name (i := 2) sc_places_of.nd rfl (by first | exact Or.inl rfl | exact Or.inr rfl)) (dss_cons (by first | exact asg_set (i := 1) (ps_lc2A (own := [("place", 3), ("item", 4)]) (p := (.nm 3)) (p1 := (.nm 4)) [4] (di_of (de_var (i := 1))) (blkOk_by (N := ["rings", "found", "length", "place", "item"]) (sc := defScope (top 22)) (by decide +kernel)) sc_places_of.nd (fun _ _ _ _ _ => (pg_name (i := 3) sc_places_of.nd rfl (by first | exact Or.inl rfl | exact Or.inr rfl))) (fun _ _ _ _ _ => dts_nil) (fun _ _ _ _ _ => (di_range1 (de_var (i := 2)) T.z_range)) (fun _ _ _ _ _ => (pg_name (i := 4) sc_places_of.nd rfl (by first | exact Or.inl rfl | exact Or.inr rfl))) (fun _ _ _ _ _ => dts_nil) (fun _ _ _ _ _ => (de_bin o_add (db_var (i := 3)) (DE.db (de_tup (da_cons (de_var (i := 4)) da_nil))))) (sw_true rfl rfl rfl (by decide +kernel))) | exact ds_set (i := 1) (DF.de (df_lc2 (own := [("place", 3), ("item", 4)]) (p := (.nm 3)) (p1 := (.nm 4)) [4] (di_of (de_var (i := 1))) (blkOk_by (N := ["rings", "found", "length", "place", "item"]) (sc := defScope (top 22)) (by decide +kernel)) sc_places_of.nd (fun _ _ _ _ _ => (pg_name (i := 3) sc_places_of.nd rfl (by first | exact Or.inl rfl | exact Or.inr rfl))) (fun _ _ _ _ _ => dts_nil) (fun _ _ _ _ _ => (di_range1 (de_var (i := 2)) T.z_range)) (fun _ _ _ _ _ => (pg_name (i := 4) sc_places_of.nd rfl (by first | exact Or.inl rfl | exact Or.inr rfl))) (fun _ _ _ _ _ => dts_nil) (fun _ _ _ _ _ => (de_bin o_add (db_var (i := 3)) (DE.db (de_tup (da_cons (de_var (i := 4)) da_nil))))))) sc_places_of.nd) dss_nil)) (dss_cons (ds_ret (de_var (i := 1))) dss_nil)))
theorem sc_pair_of : FnScope ["rings", "x", "k", "whole", "a", "b", "length"] ["rings", "x", "k"] (defScope (top 23)) := ⟨rfl, rfl, rfl, by decide +kernel, rfl, by decide +kernel, by decide +kernel⟩
theorem ok_pair_of {f : Addr} {fd : FuncData} (F : Fun K "pair_of" "pair_of" (top 23) f fd) (T : Txt K mg) (H_order : Has P w K mg base "order" 1 ["rings"] f_order) : FnOk P w K mg base CX0 2 f fd ["rings", "x", "k"] (spOf K 3 f_pair_of) :=
  fn_ok (T := T_pair_of) F sc_pair_of fun cdv A outer s H _ ex hr => (dss_cons (ds_set (i := 3) (de_callH H_order (hr.mono (by decide)) (da_cons (de_var (i := 0)) da_nil)) sc_pair_of.nd) (dss_cons (ds_ret (de_bin o_mod (DE.db (de_fnB (f_sum rfl) T.z_sum bt_sum (dab_cons (DE.db (DF.de (df_lc (own := [("a", 4), ("b", 5), ("length", 6)]) (p := (.tp [(.nm 4), (.nm 5), (.nm 6)])) (di_zip3 (de_var (i := 1)) (de_var (i := 2)) (de_var (i := 0)) T.z_zip) (blkOk_by (N := ["rings", "x", "k", "whole", "a", "b", "length"]) (sc := defScope (top 23)) (by decide +kernel)) sc_pair_of.nd (fun _ _ _ _ _ => (pg_tup rfl (pgs_cons (pg_name (i := 4) sc_pair_of.nd rfl (by first | exact Or.inl rfl | exact Or.inr rfl)) (pgs_cons (pg_name (i := 5) sc_pair_of.nd rfl (by first | exact Or.inl rfl | exact Or.inr rfl)) (pgs_cons (pg_name (i := 6) sc_pair_of.nd rfl (by first | exact Or.inl rfl | exact Or.inr rfl)) pgs_nil))))) (fun _ _ _ _ _ => dts_nil) (fun _ _ _ _ _ => (de_bin o_mulI (DE.db (de_bin o_mulI (db_var (i := 4)) (db_var (i := 5)))) (DE.db (de_bin o_div (db_var (i := 3)) (db_var (i := 6))))))))) dab_nil))) (db_var (i := 3)))) dss_nil))
theorem sc_choices_for : FnScope ["n", "k", "found", "d", "p", "j"] ["n", "k"] (defScope (top 25)) := ⟨rfl, rfl, rfl, by decide +kernel, rfl, by decide +kernel, by decide +kernel⟩
theorem ok_choices_for {f : Addr} {fd : FuncData} (F : Fun K "choices_for" "choices_for" (top 25) f fd) (T : Txt K mg) (H_primes_of : Has P w K mg base "primes_of" 1 ["e"] f_primes_of) : FnOk P w K mg base CX0 2 f fd ["n", "k"] (spOf K 2 f_choices_for) :=
  fn_ok (T := T_choices_for) F sc_choices_for fun cdv A outer s H _ ex hr => (dss_cons (ds_own (i := 2) (df_lst da_nil) sc_choices_for.nd) (dss_cons (ds_for (p := (.nm 3)) (di_range2 de_int (de_bin o_add (db_var (i := 0)) (DE.db de_int)) T.z_range) (pg_name (i := 3) sc_choices_for.nd rfl (by first | exact Or.inl rfl | exact Or.inr rfl)) (dss_cons (ds_if (DW.dt (dw_and (dt_cmp (o_eq hr.units) (DE.db (de_bin o_mod (db_var (i := 0)) (db_var (i := 3)))) (DE.db de_int)) (dw_and1 (dt_cmp (o_le hr.units) (db_var (i := 3)) (db_var (i := 1)))))) (dss_cons (ds_for (p := (.nm 4)) (di_of (de_callH H_primes_of (hr.mono (by decide)) (da_cons (de_bin o_div (db_var (i := 0)) (db_var (i := 3))) da_nil))) (pg_name (i := 4) sc_choices_for.nd rfl (by first | exact Or.inl rfl | exact Or.inr rfl)) (dss_cons (ds_set (i := 5) (de_fnB (f_min2 rfl) T.z_min bt_min (dab_cons (db_var (i := 4)) (dab_cons (DE.db (de_bin o_div (db_var (i := 1)) (db_var (i := 3)))) dab_nil))) sc_choices_for.nd) (dss_cons (ds_app (i := 2) (de_tup (da_cons (de_bin o_mulI (DE.db (de_bin o_div (db_var (i := 0)) (DE.db (de_bin o_mulI (db_var (i := 3)) (db_var (i := 4)))))) (DE.db (de_bin o_sub (DE.db (de_bin o_add (db_var (i := 4)) (DE.db de_int))) (db_var (i := 5))))) (da_cons (de_var (i := 3)) (da_cons (de_var (i := 4)) (da_cons (de_var (i := 5)) da_nil)))))) dss_nil))) dss_nil) dss_nil) dss_nil)) (dss_cons (ds_frz 2 (ds_ret (de_var (i := 2)))) dss_nil)))
theorem sc_least_voices : FnScope ["n", "k", "choice"] ["n", "k"] (defScope (top 26)) := ⟨rfl, rfl, rfl, by decide +kernel, rfl, by decide +kernel, by decide +kernel⟩
theorem ok_least_voices {f : Addr} {fd : FuncData} (F : Fun K "least_voices" "least_voices" (top 26) f fd) (T : Txt K mg) (H_choices_for : Has P w K mg base "choices_for" 2 ["n", "k"] f_choices_for) : FnOk P w K mg base CX0 3 f fd ["n", "k"] (spOf K 2 f_least_voices) :=
  fn_ok (T := T_least_voices) F sc_least_voices fun cdv A outer s H _ ex hr => (dss_cons (ds_ret (de_fnB (f_min1 rfl) T.z_min bt_min (dab_cons (DE.db (DF.de (df_lc (own := [("choice", 2)]) (p := (.nm 2)) (di_of (de_callH H_choices_for (hr.mono (by decide)) (da_cons (de_var (i := 0)) (da_cons (de_var (i := 1)) da_nil)))) (blkOk_by (N := ["n", "k", "choice"]) (sc := defScope (top 26)) (by decide +kernel)) sc_least_voices.nd (fun _ _ _ _ _ => (pg_name (i := 2) sc_least_voices.nd rfl (by first | exact Or.inl rfl | exact Or.inr rfl))) (fun _ _ _ _ _ => dts_nil) (fun _ _ _ _ _ => (de_ix (db_var (i := 2)) (DE.db de_int)))))) dab_nil))) dss_nil)
theorem sc_turn_remainders : FnScope ["e", "root", "found", "turn"] ["e"] (defScope (top 31)) := ⟨rfl, rfl, rfl, by decide +kernel, rfl, by decide +kernel, by decide +kernel⟩
theorem ok_turn_remainders {f : Addr} {fd : FuncData} (F : Fun K "turn_remainders" "turn_remainders" (top 31) f fd) (T : Txt K mg)  : FnOk P w K mg base CX0 1 f fd ["e"] (spOf K 1 f_turn_remainders) :=
  fn_ok (T := T_turn_remainders) F sc_turn_remainders fun cdv A outer s H _ ex hr => (dss_cons (by first | exact ds_par2 (i := 1) (j := 2) (dp_val (i := 1) de_int (dp_own (i := 2) (df_lst (da_cons de_int da_nil)) dp_nil)) sc_turn_remainders.nd (by decide) | exact ds_parT (dp_val (i := 1) de_int (dp_own (i := 2) (df_lst (da_cons de_int da_nil)) dp_nil)) (pg_tup rfl (pgs_cons (pg_name (i := 1) sc_turn_remainders.nd rfl (by first | exact Or.inl rfl | exact Or.inr rfl)) (pgs_cons (pg_name (i := 2) sc_turn_remainders.nd rfl (by first | exact Or.inl rfl | exact Or.inr rfl)) pgs_nil)))) (dss_cons (ds_for (p := (.nm 3)) (di_range1 (de_bin o_div (DE.db (de_glI T.c_ROUND.choose_spec)) (db_var (i := 0))) T.z_range) (pg_name (i := 3) sc_turn_remainders.nd rfl (by first | exact Or.inl rfl | exact Or.inr rfl)) (dss_cons (ds_set (i := 1) (de_bin o_mod (DE.db (de_bin o_mulI (db_var (i := 1)) (DE.db (de_glI T.c_ROOT.choose_spec)))) (DE.db (de_glI T.c_PRIME.choose_spec))) sc_turn_remainders.nd) dss_nil)) (dss_cons (ds_for (p := (.nm 3)) (di_range1 (de_bin o_sub (db_var (i := 0)) (DE.db de_int)) T.z_range) (pg_name (i := 3) sc_turn_remainders.nd rfl (by first | exact Or.inl rfl | exact Or.inr rfl)) (dss_cons (ds_app (i := 2) (de_bin o_mod (DE.db (de_bin o_mulI (DE.db (de_ix (db_var (i := 2)) (DE.db (de_un o_neg (DE.db de_int))))) (db_var (i := 1)))) (DE.db (de_glI T.c_PRIME.choose_spec)))) dss_nil)) (dss_cons (ds_frz 2 (ds_ret (de_var (i := 2)))) dss_nil))))
theorem sc_rank_by_remainders : FnScope ["rows", "left", "found", "pivot", "live", "at", "item", "own", "row"] ["rows"] (defScope (top 32)) := ⟨rfl, rfl, rfl, by decide +kernel, rfl, by decide +kernel, by decide +kernel⟩
theorem ok_rank_by_remainders {f : Addr} {fd : FuncData} (F : Fun K "rank_by_remainders" "rank_by_remainders" (top 32) f fd) (T : Txt K mg)  : FnOk P w K mg base CX0 1 f fd ["rows"] (spOf K 1 f_rank_by_remainders) :=
  fn_ok (T := T_rank_by_remainders) F sc_rank_by_remainders fun cdv A outer s H _ ex hr => (dss_cons (by first | exact ds_par2 (i := 1) (j := 2) (dp_val (i := 1) (de_var (i := 0)) (dp_val (i := 2) de_int dp_nil)) sc_rank_by_remainders.nd (by decide) | exact ds_parT (dp_val (i := 1) (de_var (i := 0)) (dp_val (i := 2) de_int dp_nil)) (pg_tup rfl (pgs_cons (pg_name (i := 1) sc_rank_by_remainders.nd rfl (by first | exact Or.inl rfl | exact Or.inr rfl)) (pgs_cons (pg_name (i := 2) sc_rank_by_remainders.nd rfl (by first | exact Or.inl rfl | exact Or.inr rfl)) pgs_nil)))) (dss_cons (ds_while (dt_cmp (o_ne hr.units) (db_var (i := 1)) (DE.db (DF.de (df_lst da_nil)))) (dss_cons (by first | exact ds_par2 (i := 3) (j := 1) (dp_val (i := 3) (de_ix (db_var (i := 1)) (DE.db de_int)) (dp_val (i := 1) (DF.de (df_slL (db_var (i := 1)) (do_some (DE.db de_int)) do_none)) dp_nil)) sc_rank_by_remainders.nd (by decide) | exact ds_parT (dp_val (i := 3) (de_ix (db_var (i := 1)) (DE.db de_int)) (dp_val (i := 1) (DF.de (df_slL (db_var (i := 1)) (do_some (DE.db de_int)) do_none)) dp_nil)) (pg_tup rfl (pgs_cons (pg_name (i := 3) sc_rank_by_remainders.nd rfl (by first | exact Or.inl rfl | exact Or.inr rfl)) (pgs_cons (pg_name (i := 1) sc_rank_by_remainders.nd rfl (by first | exact Or.inl rfl | exact Or.inr rfl)) pgs_nil)))) (dss_cons (by first | exact asg_set (i := 4) (ps_lcA (own := [("at", 5), ("item", 6)]) (p := (.tp [(.nm 5), (.nm 6)])) (di_enum (de_var (i := 3)) T.z_enumerate) (blkOk_by (N := ["rows", "left", "found", "pivot", "live", "at", "item", "own", "row"]) (sc := defScope (top 32)) (by decide +kernel)) sc_rank_by_remainders.nd (fun _ _ _ _ _ => (pg_tup rfl (pgs_cons (pg_name (i := 5) sc_rank_by_remainders.nd rfl (by first | exact Or.inl rfl | exact Or.inr rfl)) (pgs_cons (pg_name (i := 6) sc_rank_by_remainders.nd rfl (by first | exact Or.inl rfl | exact Or.inr rfl)) pgs_nil)))) (fun _ _ _ _ _ => dts_one (dt_cmp (o_ne hr.units) (db_var (i := 6)) (DE.db de_int))) (fun _ _ _ _ _ => (de_var (i := 5))) (sw_true rfl rfl rfl (by decide +kernel))) | exact ds_set (i := 4) (DF.de (df_lc (own := [("at", 5), ("item", 6)]) (p := (.tp [(.nm 5), (.nm 6)])) (di_enum (de_var (i := 3)) T.z_enumerate) (blkOk_by (N := ["rows", "left", "found", "pivot", "live", "at", "item", "own", "row"]) (sc := defScope (top 32)) (by decide +kernel)) sc_rank_by_remainders.nd (fun _ _ _ _ _ => (pg_tup rfl (pgs_cons (pg_name (i := 5) sc_rank_by_remainders.nd rfl (by first | exact Or.inl rfl | exact Or.inr rfl)) (pgs_cons (pg_name (i := 6) sc_rank_by_remainders.nd rfl (by first | exact Or.inl rfl | exact Or.inr rfl)) pgs_nil)))) (fun _ _ _ _ _ => dts_one (dt_cmp (o_ne hr.units) (db_var (i := 6)) (DE.db de_int))) (fun _ _ _ _ _ => (de_var (i := 5))))) sc_rank_by_remainders.nd) (dss_cons (ds_if (dt_cmp (o_ne hr.units) (db_var (i := 4)) (DE.db (DF.de (df_lst da_nil)))) (dss_cons (by first | exact ds_par2 (i := 5) (j := 2) (dp_val (i := 5) (de_ix (db_var (i := 4)) (DE.db de_int)) (dp_val (i := 2) (de_bin o_add (db_var (i := 2)) (DE.db de_int)) dp_nil)) sc_rank_by_remainders.nd (by decide) | exact ds_parT (dp_val (i := 5) (de_ix (db_var (i := 4)) (DE.db de_int)) (dp_val (i := 2) (de_bin o_add (db_var (i := 2)) (DE.db de_int)) dp_nil)) (pg_tup rfl (pgs_cons (pg_name (i := 5) sc_rank_by_remainders.nd rfl (by first | exact Or.inl rfl | exact Or.inr rfl)) (pgs_cons (pg_name (i := 2) sc_rank_by_remainders.nd rfl (by first | exact Or.inl rfl | exact Or.inr rfl)) pgs_nil)))) (dss_cons (by first | exact asg_set (i := 1) (ps_lcA (own := [("row", 8)]) (p := (.nm 8)) (di_of (de_var (i := 1))) (blkOk_by (N := ["rows", "left", "found", "pivot", "live", "at", "item", "own", "row"]) (sc := defScope (top 32)) (by decide +kernel)) sc_rank_by_remainders.nd (fun _ _ _ _ _ => (pg_name (i := 8) sc_rank_by_remainders.nd rfl (by first | exact Or.inl rfl | exact Or.inr rfl))) (fun _ _ _ _ _ => dts_nil) (fun _ _ _ _ _ => (DF.de (df_lc (own := [("item", 6), ("own", 7)]) (p := (.tp [(.nm 6), (.nm 7)])) (di_zip2 (de_var (i := 8)) (de_var (i := 3)) T.z_zip) (blkOk_in (N := ["rows", "left", "found", "pivot", "live", "at", "item", "own", "row"]) (by decide +kernel)) sc_rank_by_remainders.nd (fun _ _ _ _ _ => (pg_tup rfl (pgs_cons (pg_name (i := 6) sc_rank_by_remainders.nd rfl (by first | exact Or.inl rfl | exact Or.inr rfl)) (pgs_cons (pg_name (i := 7) sc_rank_by_remainders.nd rfl (by first | exact Or.inl rfl | exact Or.inr rfl)) pgs_nil)))) (fun _ _ _ _ _ => dts_nil) (fun _ _ _ _ _ => (de_bin o_mod (DE.db (de_bin o_sub (DE.db (de_bin o_mulI (db_var (i := 6)) (DE.db (de_ix (db_var (i := 3)) (db_var (i := 5)))))) (DE.db (de_bin o_mulI (db_var (i := 7)) (DE.db (de_ix (db_var (i := 8)) (db_var (i := 5)))))))) (DE.db (de_glI T.c_PRIME.choose_spec))))))) (sw_true rfl rfl rfl (by decide +kernel))) | exact ds_set (i := 1) (DF.de (df_lc (own := [("row", 8)]) (p := (.nm 8)) (di_of (de_var (i := 1))) (blkOk_by (N := ["rows", "left", "found", "pivot", "live", "at", "item", "own", "row"]) (sc := defScope (top 32)) (by decide +kernel)) sc_rank_by_remainders.nd (fun _ _ _ _ _ => (pg_name (i := 8) sc_rank_by_remainders.nd rfl (by first | exact Or.inl rfl | exact Or.inr rfl))) (fun _ _ _ _ _ => dts_nil) (fun _ _ _ _ _ => (DF.de (df_lc (own := [("item", 6), ("own", 7)]) (p := (.tp [(.nm 6), (.nm 7)])) (di_zip2 (de_var (i := 8)) (de_var (i := 3)) T.z_zip) (blkOk_in (N := ["rows", "left", "found", "pivot", "live", "at", "item", "own", "row"]) (by decide +kernel)) sc_rank_by_remainders.nd (fun _ _ _ _ _ => (pg_tup rfl (pgs_cons (pg_name (i := 6) sc_rank_by_remainders.nd rfl (by first | exact Or.inl rfl | exact Or.inr rfl)) (pgs_cons (pg_name (i := 7) sc_rank_by_remainders.nd rfl (by first | exact Or.inl rfl | exact Or.inr rfl)) pgs_nil)))) (fun _ _ _ _ _ => dts_nil) (fun _ _ _ _ _ => (de_bin o_mod (DE.db (de_bin o_sub (DE.db (de_bin o_mulI (db_var (i := 6)) (DE.db (de_ix (db_var (i := 3)) (db_var (i := 5)))))) (DE.db (de_bin o_mulI (db_var (i := 7)) (DE.db (de_ix (db_var (i := 8)) (db_var (i := 5)))))))) (DE.db (de_glI T.c_PRIME.choose_spec))))))))) sc_rank_by_remainders.nd) dss_nil)) dss_nil) dss_nil)))) (dss_cons (ds_ret (de_var (i := 2))) dss_nil)))
theorem sc_first_gap : FnScope ["rings", "labels", "many", "need", "e", "places", "turns", "further", "lot", "table", "place", "label", "silent"] ["rings", "labels", "many", "need"] (defScope (top 33)) := ⟨rfl, rfl, rfl, by decide +kernel, rfl, by decide +kernel, by decide +kernel⟩
theorem ok_first_gap {f : Addr} {fd : FuncData} (F : Fun K "first_gap" "first_gap" (top 33) f fd) (T : Txt K mg) (H_order : Has P w K mg base "order" 1 ["rings"] f_order) (H_pair_of : Has P w K mg base "pair_of" 2 ["rings", "x", "k"] f_pair_of) (H_places_of : Has P w K mg base "places_of" 1 ["rings"] f_places_of) (H_rank_by_remainders : Has P w K mg base "rank_by_remainders" 1 ["rows"] f_rank_by_remainders) (H_turn_remainders : Has P w K mg base "turn_remainders" 1 ["e"] f_turn_remainders) : FnOk P w K mg base CX0 3 f fd ["rings", "labels", "many", "need"] (spOf K 4 f_first_gap) :=
  fn_ok (T := T_first_gap) F sc_first_gap fun cdv A outer s H _ ex hr => (dss_cons (by first | exact ds_par2 (i := 4) (j := 5) (dp_val (i := 4) (de_callH H_order (hr.mono (by decide)) (da_cons (de_var (i := 0)) da_nil)) (dp_val (i := 5) (de_callH H_places_of (hr.mono (by decide)) (da_cons (de_var (i := 0)) da_nil)) dp_nil)) sc_first_gap.nd (by decide) | exact ds_parT (dp_val (i := 4) (de_callH H_order (hr.mono (by decide)) (da_cons (de_var (i := 0)) da_nil)) (dp_val (i := 5) (de_callH H_places_of (hr.mono (by decide)) (da_cons (de_var (i := 0)) da_nil)) dp_nil)) (pg_tup rfl (pgs_cons (pg_name (i := 4) sc_first_gap.nd rfl (by first | exact Or.inl rfl | exact Or.inr rfl)) (pgs_cons (pg_name (i := 5) sc_first_gap.nd rfl (by first | exact Or.inl rfl | exact Or.inr rfl)) pgs_nil)))) (dss_cons (ds_set (i := 6) (de_callH H_turn_remainders (hr.mono (by decide)) (da_cons (de_var (i := 4)) da_nil)) sc_first_gap.nd) (dss_cons (ds_for (p := (.nm 7)) (di_comb (DF.de (df_slL (db_var (i := 5)) (do_some (DE.db de_int)) do_none)) (de_fnT (f_int) T.z_int bt_int (dab_cons (DE.db (de_bin o_sub (db_var (i := 2)) (DE.db de_int))) dab_nil)) T.g_combinations) (pg_name (i := 7) sc_first_gap.nd rfl (by first | exact Or.inl rfl | exact Or.inr rfl)) (dss_cons (ds_set (i := 8) (DF.de (df_bin o_cat (DE.db (DF.de (df_slL (db_var (i := 5)) do_none (do_some (DE.db de_int))))) (DE.db (DF.de (df_fnT (f_listA rfl) T.z_list bt_list (dab_cons (db_var (i := 7)) dab_nil)))))) sc_first_gap.nd) (dss_cons (ds_set (i := 9) (DF.de (df_dcT hr.units (own := [("label", 11)]) (p := (.nm 11)) (di_of (de_var (i := 1))) (blkOk_by (N := ["rings", "labels", "many", "need", "e", "places", "turns", "further", "lot", "table", "place", "label", "silent"]) (sc := defScope (top 33)) (by decide +kernel)) sc_first_gap.nd (fun _ _ _ _ _ => (pg_name (i := 11) sc_first_gap.nd rfl (by first | exact Or.inl rfl | exact Or.inr rfl))) (fun _ _ _ _ _ => dts_nil) (fun _ _ _ _ _ => (de_var (i := 11))) (fun _ _ _ _ _ => (DF.de (df_lc (own := [("place", 10)]) (p := (.nm 10)) (di_of (de_var (i := 8))) (blkOk_in (N := ["rings", "labels", "many", "need", "e", "places", "turns", "further", "lot", "table", "place", "label", "silent"]) (by decide +kernel)) sc_first_gap.nd (fun _ _ _ _ _ => (pg_name (i := 10) sc_first_gap.nd rfl (by first | exact Or.inl rfl | exact Or.inr rfl))) (fun _ _ _ _ _ => dts_nil) (fun _ _ _ _ _ => (de_ix (db_var (i := 6)) (DE.db (de_callH H_pair_of (hr.mono (by decide)) (da_cons (de_var (i := 0)) (da_cons (de_var (i := 10)) (da_cons (de_var (i := 11)) da_nil)))))))))))) sc_first_gap.nd) (dss_cons (ds_for (p := (.nm 12)) (di_comb (DF.de (df_fnT (f_listA rfl) T.z_list bt_list (dab_cons (db_var (i := 1)) dab_nil))) (de_fnT (f_int) T.z_int bt_int (dab_cons (db_var (i := 3)) dab_nil)) T.g_combinations) (pg_name (i := 12) sc_first_gap.nd rfl (by first | exact Or.inl rfl | exact Or.inr rfl)) (dss_cons (ds_if (dt_cmp (o_lt hr.units) (DE.db (de_callH H_rank_by_remainders (hr.mono (by decide)) (da_cons (DF.de (df_lc (own := [("label", 11)]) (p := (.nm 11)) (di_of (de_var (i := 12))) (blkOk_by (N := ["rings", "labels", "many", "need", "e", "places", "turns", "further", "lot", "table", "place", "label", "silent"]) (sc := defScope (top 33)) (by decide +kernel)) sc_first_gap.nd (fun _ _ _ _ _ => (pg_name (i := 11) sc_first_gap.nd rfl (by first | exact Or.inl rfl | exact Or.inr rfl))) (fun _ _ _ _ _ => dts_nil) (fun _ _ _ _ _ => (de_dget hr.units (db_var (i := 9)) (db_var (i := 11)))))) da_nil))) (db_var (i := 2))) (dss_cons (ds_ret (de_tup (da_cons (de_var (i := 8)) (da_cons (DF.de (df_fnT (f_listA rfl) T.z_list bt_list (dab_cons (db_var (i := 12)) dab_nil))) da_nil)))) dss_nil) dss_nil) dss_nil)) dss_nil)))) (dss_cons (ds_ret de_non) dss_nil))))
theorem sc_places_asked : FnScope ["rings", "k"] ["rings", "k"] (defScope (top 34)) := ⟨rfl, rfl, rfl, by decide +kernel, rfl, by decide +kernel, by decide +kernel⟩
theorem ok_places_asked {f : Addr} {fd : FuncData} (F : Fun K "places_asked" "places_asked" (top 34) f fd) (T : Txt K mg) (H_size : Has P w K mg base "size" 1 ["rings"] f_size) : FnOk P w K mg base CX0 2 f fd ["rings", "k"] (spOf K 2 f_places_asked) :=
  fn_ok (T := T_places_asked) F sc_places_asked fun cdv A outer s H _ ex hr => (dss_cons (ds_ret (de_fnB (f_min2 rfl) T.z_min bt_min (dab_cons (DE.db (de_bin o_mulI (DE.db de_int) (db_var (i := 1)))) (dab_cons (DE.db (de_callH H_size (hr.mono (by decide)) (da_cons (de_var (i := 0)) da_nil))) dab_nil)))) dss_nil)
theorem sc_are_telling : FnScope ["rings", "labels", "k", "e", "need"] ["rings", "labels", "k", "e"] (defScope (top 35)) := ⟨rfl, rfl, rfl, by decide +kernel, rfl, by decide +kernel, by decide +kernel⟩
theorem ok_are_telling {f : Addr} {fd : FuncData} (F : Fun K "are_telling" "are_telling" (top 35) f fd) (T : Txt K mg) (H_first_gap : Has P w K mg base "first_gap" 3 ["rings", "labels", "many", "need"] f_first_gap) (H_places_asked : Has P w K mg base "places_asked" 2 ["rings", "k"] f_places_asked) : FnOk P w K mg base CX0 4 f fd ["rings", "labels", "k", "e"] (spOf K 4 f_are_telling) :=
  fn_ok (T := T_are_telling) F sc_are_telling fun cdv A outer s H _ ex hr => (dss_cons (ds_set (i := 4) (de_bin o_sub (DE.db (de_fnB (f_len) T.z_len bt_len (dab_cons (db_var (i := 1)) dab_nil))) (DE.db (de_bin o_mulI (DE.db de_int) (db_var (i := 3))))) sc_are_telling.nd) (dss_cons (ds_ret (de_and (de_cmp (o_gt hr.units) (db_var (i := 4)) (DE.db de_int)) (de_one (de_cmp o_isN (DE.db (de_callH H_first_gap (hr.mono (by decide)) (da_cons (de_var (i := 0)) (da_cons (de_var (i := 1)) (da_cons (de_callH H_places_asked (hr.mono (by decide)) (da_cons (de_var (i := 0)) (da_cons (de_var (i := 2)) da_nil))) (da_cons (de_var (i := 4)) da_nil)))))) (DE.db de_non))))) dss_nil))
theorem sc_sure_many : FnScope ["n", "k", "e", "found"] ["n", "k", "e"] (defScope (top 36)) := ⟨rfl, rfl, rfl, by decide +kernel, rfl, by decide +kernel, by decide +kernel⟩
theorem ok_sure_many {f : Addr} {fd : FuncData} (F : Fun K "sure_many" "sure_many" (top 36) f fd) (T : Txt K mg) (H_least_voices : Has P w K mg base "least_voices" 3 ["n", "k"] f_least_voices) : FnOk P w K mg base CX0 4 f fd ["n", "k", "e"] (spOf K 3 f_sure_many) :=
  fn_ok (T := T_sure_many) F sc_sure_many fun cdv A outer s H _ ex hr => (dss_cons (ds_set (i := 3) (de_bin o_add (DE.db (de_bin o_sub (DE.db (de_bin o_add (db_var (i := 0)) (DE.db de_int))) (DE.db (de_callH H_least_voices (hr.mono (by decide)) (da_cons (de_var (i := 0)) (da_cons (de_fnB (f_min2 rfl) T.z_min bt_min (dab_cons (DE.db (de_bin o_mulI (DE.db de_int) (db_var (i := 1)))) (dab_cons (db_var (i := 0)) dab_nil))) da_nil)))))) (DE.db (de_bin o_mulI (DE.db de_int) (db_var (i := 2))))) sc_sure_many.nd) (dss_cons (ds_ret (de_if (dt_cmp (o_le hr.units) (db_var (i := 3)) (db_var (i := 0))) (de_var (i := 3)) de_non)) dss_nil))
theorem sc_need_counts : FnScope ["rings", "k", "e"] ["rings", "k", "e"] (defScope (top 38)) := ⟨rfl, rfl, rfl, by decide +kernel, rfl, by decide +kernel, by decide +kernel⟩
theorem ok_need_counts {f : Addr} {fd : FuncData} (F : Fun K "need_counts" "need_counts" (top 38) f fd) (T : Txt K mg) (H_need_count : Has P w K mg base "need_count" 2 ["thing", "least", "most"] f_need_count) (H_size : Has P w K mg base "size" 1 ["rings"] f_size) (HD_need_count_1 : HasD P w K mg base "need_count" 2 ["thing", "least", "most"] [.non] f_need_count) : FnOk P w K mg base CX0 3 f fd ["rings", "k", "e"] (spOf K 3 f_need_counts) :=
  fn_ok (T := T_need_counts) F sc_need_counts fun cdv A outer s H _ ex hr => (dss_cons (ds_expr (de_callH H_need_count (hr.mono (by decide)) (da_cons (de_var (i := 1)) (da_cons de_int (da_cons (de_callH H_size (hr.mono (by decide)) (da_cons (de_var (i := 0)) da_nil)) da_nil))))) (dss_cons (ds_expr (de_callD HD_need_count_1 (hr.mono (by decide)) (da_cons (de_var (i := 2)) (da_cons de_int da_nil)))) dss_nil))
theorem sc_need_telling : FnScope ["rings", "labels", "k", "e"] ["rings", "labels", "k", "e"] (defScope (top 39)) := ⟨rfl, rfl, rfl, by decide +kernel, rfl, by decide +kernel, by decide +kernel⟩
theorem ok_need_telling {f : Addr} {fd : FuncData} (F : Fun K "need_telling" "need_telling" (top 39) f fd) (T : Txt K mg) (H_need_counts : Has P w K mg base "need_counts" 3 ["rings", "k", "e"] f_need_counts) (H_need_lot : Has P w K mg base "need_lot" 5 ["rings", "places"] f_need_lot) (H_need_rings : Has P w K mg base "need_rings" 4 ["rings"] f_need_rings) : FnOk P w K mg base CX0 6 f fd ["rings", "labels", "k", "e"] (spOf K 4 f_need_telling) :=
  fn_ok (T := T_need_telling) F sc_need_telling fun cdv A outer s H _ ex hr => (dss_cons (ds_expr (de_callH H_need_rings (hr.mono (by decide)) (da_cons (de_var (i := 0)) da_nil))) (dss_cons (ds_expr (de_callH H_need_lot (hr.mono (by decide)) (da_cons (de_var (i := 0)) (da_cons (de_var (i := 1)) da_nil)))) (dss_cons (ds_expr (de_callH H_need_counts (hr.mono (by decide)) (da_cons (de_var (i := 0)) (da_cons (de_var (i := 2)) (da_cons (de_var (i := 3)) da_nil))))) dss_nil)))
theorem sc_does_tell : FnScope ["rings", "labels", "k", "e"] ["rings", "labels", "k", "e"] (defScope (top 40)) := ⟨rfl, rfl, rfl, by decide +kernel, rfl, by decide +kernel, by decide +kernel⟩
theorem ok_does_tell {f : Addr} {fd : FuncData} (F : Fun K "does_tell" "does_tell" (top 40) f fd) (T : Txt K mg) (H_are_telling : Has P w K mg base "are_telling" 4 ["rings", "labels", "k", "e"] f_are_telling) (H_need_telling : Has P w K mg base "need_telling" 6 ["rings", "labels", "k", "e"] f_need_telling) : FnOk P w K mg base CX0 7 f fd ["rings", "labels", "k", "e"] (spOf K 4 f_does_tell) :=
  fn_ok (T := T_does_tell) F sc_does_tell fun cdv A outer s H _ ex hr => (dss_cons (ds_expr (de_callH H_need_telling (hr.mono (by decide)) (da_cons (de_var (i := 0)) (da_cons (de_var (i := 1)) (da_cons (de_var (i := 2)) (da_cons (de_var (i := 3)) da_nil)))))) (dss_cons (ds_ret (de_callH H_are_telling (hr.mono (by decide)) (da_cons (de_var (i := 0)) (da_cons (de_var (i := 1)) (da_cons (de_var (i := 2)) (da_cons (de_var (i := 3)) da_nil)))))) dss_nil))
theorem sc_sure_number : FnScope ["rings", "k", "e"] ["rings", "k", "e"] (defScope (top 41)) := ⟨rfl, rfl, rfl, by decide +kernel, rfl, by decide +kernel, by decide +kernel⟩
theorem ok_sure_number {f : Addr} {fd : FuncData} (F : Fun K "sure_number" "sure_number" (top 41) f fd) (T : Txt K mg) (H_need_counts : Has P w K mg base "need_counts" 3 ["rings", "k", "e"] f_need_counts) (H_need_rings : Has P w K mg base "need_rings" 4 ["rings"] f_need_rings) (H_size : Has P w K mg base "size" 1 ["rings"] f_size) (H_sure_many : Has P w K mg base "sure_many" 4 ["n", "k", "e"] f_sure_many) : FnOk P w K mg base CX0 5 f fd ["rings", "k", "e"] (spOf K 3 f_sure_number) :=
  fn_ok (T := T_sure_number) F sc_sure_number fun cdv A outer s H _ ex hr => (dss_cons (ds_expr (de_callH H_need_rings (hr.mono (by decide)) (da_cons (de_var (i := 0)) da_nil))) (dss_cons (ds_expr (de_callH H_need_counts (hr.mono (by decide)) (da_cons (de_var (i := 0)) (da_cons (de_var (i := 1)) (da_cons (de_var (i := 2)) da_nil))))) (dss_cons (ds_ret (de_callH H_sure_many (hr.mono (by decide)) (da_cons (de_callH H_size (hr.mono (by decide)) (da_cons (de_var (i := 0)) da_nil)) (da_cons (de_var (i := 1)) (da_cons (de_var (i := 2)) da_nil))))) dss_nil)))
theorem sc_law_pick : FnScope ["deck", "some"] ["deck", "some"] (defScope (top 45)) := ⟨rfl, rfl, rfl, by decide +kernel, rfl, by decide +kernel, by decide +kernel⟩
theorem ok_law_pick {f : Addr} {fd : FuncData} (F : Fun K "_law_pick" "_law_pick" (top 45) f fd) (T : Txt K mg) (H__law_draw : Has P w K mg base "_law_draw" 1 ["deck", "below"] E.draw) : FnOk P w K mg base CX0 2 f fd ["deck", "some"] (spOf K 2 (f_law_pick E)) :=
  fn_ok (T := T_law_pick E) F sc_law_pick fun cdv A outer s H _ ex hr => (dss_cons (ds_ret (de_ix (db_var (i := 1)) (DE.db (de_callH H__law_draw (hr.mono (by decide)) (da_cons (de_var (i := 0)) (da_cons (de_fnB (f_len) T.z_len bt_len (dab_cons (db_var (i := 1)) dab_nil)) da_nil)))))) dss_nil)
theorem sc_law_common : FnScope ["one", "other"] ["one", "other"] (defScope (top 46)) := ⟨rfl, rfl, rfl, by decide +kernel, rfl, by decide +kernel, by decide +kernel⟩
theorem ok_law_common {f : Addr} {fd : FuncData} (F : Fun K "_law_common" "_law_common" (top 46) f fd) (T : Txt K mg)  : FnOk P w K mg base CX0 1 f fd ["one", "other"] (spOf K 2 f_law_common) :=
  fn_ok (T := T_law_common) F sc_law_common fun cdv A outer s H _ ex hr => (dss_cons (by first | exact ds_par2 (i := 0) (j := 1) (dp_val (i := 0) (de_fnB (f_abs) T.z_abs bt_abs (dab_cons (db_var (i := 0)) dab_nil)) (dp_val (i := 1) (de_fnB (f_abs) T.z_abs bt_abs (dab_cons (db_var (i := 1)) dab_nil)) dp_nil)) sc_law_common.nd (by decide) | exact ds_parT (dp_val (i := 0) (de_fnB (f_abs) T.z_abs bt_abs (dab_cons (db_var (i := 0)) dab_nil)) (dp_val (i := 1) (de_fnB (f_abs) T.z_abs bt_abs (dab_cons (db_var (i := 1)) dab_nil)) dp_nil)) (pg_tup rfl (pgs_cons (pg_name (i := 0) sc_law_common.nd rfl (by first | exact Or.inl rfl | exact Or.inr rfl)) (pgs_cons (pg_name (i := 1) sc_law_common.nd rfl (by first | exact Or.inl rfl | exact Or.inr rfl)) pgs_nil)))) (dss_cons (ds_while (dt_cmp (o_ne hr.units) (db_var (i := 1)) (DE.db de_int)) (dss_cons (by first | exact ds_par2 (i := 0) (j := 1) (dp_val (i := 0) (de_var (i := 1)) (dp_val (i := 1) (de_bin o_mod (DE.db (de_fnT (f_int) T.z_int bt_int (dab_cons (db_var (i := 0)) dab_nil))) (db_var (i := 1))) dp_nil)) sc_law_common.nd (by decide) | exact ds_parT (dp_val (i := 0) (de_var (i := 1)) (dp_val (i := 1) (de_bin o_mod (DE.db (de_fnT (f_int) T.z_int bt_int (dab_cons (db_var (i := 0)) dab_nil))) (db_var (i := 1))) dp_nil)) (pg_tup rfl (pgs_cons (pg_name (i := 0) sc_law_common.nd rfl (by first | exact Or.inl rfl | exact Or.inr rfl)) (pgs_cons (pg_name (i := 1) sc_law_common.nd rfl (by first | exact Or.inl rfl | exact Or.inr rfl)) pgs_nil)))) dss_nil)) (dss_cons (ds_ret (de_var (i := 0))) dss_nil)))
theorem sc_law_shuffled : FnScope ["deck", "some", "left", "found", "go"] ["deck", "some"] (defScope (top 47)) := ⟨rfl, rfl, rfl, by decide +kernel, rfl, by decide +kernel, by decide +kernel⟩
theorem ok_law_shuffled {f : Addr} {fd : FuncData} (F : Fun K "_law_shuffled" "_law_shuffled" (top 47) f fd) (T : Txt K mg) (H__law_draw : Has P w K mg base "_law_draw" 1 ["deck", "below"] E.draw) : FnOk P w K mg base CX0 2 f fd ["deck", "some"] (spOf K 2 (f_law_shuffled E)) :=
  fn_ok (T := T_law_shuffled E) F sc_law_shuffled fun cdv A outer s H _ ex hr => (dss_cons (by first | exact ds_par2 (i := 2) (j := 3) (dp_own (i := 2) (df_fnT (f_listA rfl) T.z_list bt_list (dab_cons (db_var (i := 1)) dab_nil)) (dp_own (i := 3) (df_lst da_nil) dp_nil)) sc_law_shuffled.nd (by decide) | exact ds_parT (dp_own (i := 2) (df_fnT (f_listA rfl) T.z_list bt_list (dab_cons (db_var (i := 1)) dab_nil)) (dp_own (i := 3) (df_lst da_nil) dp_nil)) (pg_tup rfl (pgs_cons (pg_name (i := 2) sc_law_shuffled.nd rfl (by first | exact Or.inl rfl | exact Or.inr rfl)) (pgs_cons (pg_name (i := 3) sc_law_shuffled.nd rfl (by first | exact Or.inl rfl | exact Or.inr rfl)) pgs_nil)))) (dss_cons (ds_for (p := (.nm 4)) (di_range1 (de_fnB (f_len) T.z_len bt_len (dab_cons (db_var (i := 2)) dab_nil)) T.z_range) (pg_name (i := 4) sc_law_shuffled.nd rfl (by first | exact Or.inl rfl | exact Or.inr rfl)) (dss_cons (ds_appPop (i := 3) (j := 2) (de_callH H__law_draw (hr.mono (by decide)) (da_cons (de_var (i := 0)) (da_cons (de_fnB (f_len) T.z_len bt_len (dab_cons (db_var (i := 2)) dab_nil)) da_nil))) (by decide)) dss_nil)) (dss_cons (ds_frz 3 (ds_ret (de_var (i := 3)))) dss_nil)))
theorem sc_law_some_of : FnScope ["deck", "some", "many", "left", "at"] ["deck", "some", "many"] (defScope (top 48)) := ⟨rfl, rfl, rfl, by decide +kernel, rfl, by decide +kernel, by decide +kernel⟩
theorem ok_law_some_of {f : Addr} {fd : FuncData} (F : Fun K "_law_some_of" "_law_some_of" (top 48) f fd) (T : Txt K mg) (H__law_shuffled : Has P w K mg base "_law_shuffled" 2 ["deck", "some"] (f_law_shuffled E)) : FnOk P w K mg base CX0 3 f fd ["deck", "some", "many"] (spOf K 3 (f_law_some_of E)) :=
  fn_ok (T := T_law_some_of E) F sc_law_some_of fun cdv A outer s H _ ex hr => (dss_cons (ds_set (i := 3) (DF.de (df_slL (DE.db (de_callH H__law_shuffled (hr.mono (by decide)) (da_cons (de_var (i := 0)) (da_cons (DF.de (df_lstRng1 rfl (de_fnB (f_len) T.z_len bt_len (dab_cons (db_var (i := 1)) dab_nil)) T.z_list T.z_range)) da_nil)))) do_none (do_some (db_var (i := 2))))) sc_law_some_of.nd) (dss_cons (ds_ret (DF.de (df_lc (own := [("at", 4)]) (p := (.nm 4)) (di_of (DF.de (df_fnB (f_sorted) T.z_sorted bt_sorted (dab_cons (db_var (i := 3)) dab_nil)))) (blkOk_by (N := ["deck", "some", "many", "left", "at"]) (sc := defScope (top 48)) (by decide +kernel)) sc_law_some_of.nd (fun _ _ _ _ _ => (pg_name (i := 4) sc_law_some_of.nd rfl (by first | exact Or.inl rfl | exact Or.inr rfl))) (fun _ _ _ _ _ => dts_nil) (fun _ _ _ _ _ => (de_ix (db_var (i := 1)) (db_var (i := 4))))))) dss_nil))
theorem sc_law_divided : FnScope ["line", "by", "left", "found", "top", "at", "x", "k", "y"] ["line", "by"] (defScope (top 50)) := ⟨rfl, rfl, rfl, by decide +kernel, rfl, by decide +kernel, by decide +kernel⟩
theorem ok_law_divided {f : Addr} {fd : FuncData} (F : Fun K "_law_divided" "_law_divided" (top 50) f fd) (T : Txt K mg)  : FnOk P w K mg base CX0 1 f fd ["line", "by"] (spOf K 2 f_law_divided) :=
  fn_ok (T := T_law_divided) F sc_law_divided fun cdv A outer s H _ ex hr => (dss_cons (by first | exact ds_par3 (i := 2) (j := 3) (l := 4) (dp_own (i := 2) (df_fnT (f_listA rfl) T.z_list bt_list (dab_cons (db_var (i := 0)) dab_nil)) (dp_own (i := 3) (df_lst da_nil) (dp_val (i := 4) (de_bin o_sub (DE.db (de_fnB (f_len) T.z_len bt_len (dab_cons (db_var (i := 1)) dab_nil))) (DE.db de_int)) dp_nil))) sc_law_divided.nd (by decide) (by decide) (by decide) | exact ds_parT (dp_own (i := 2) (df_fnT (f_listA rfl) T.z_list bt_list (dab_cons (db_var (i := 0)) dab_nil)) (dp_own (i := 3) (df_lst da_nil) (dp_val (i := 4) (de_bin o_sub (DE.db (de_fnB (f_len) T.z_len bt_len (dab_cons (db_var (i := 1)) dab_nil))) (DE.db de_int)) dp_nil))) (pg_tup rfl (pgs_cons (pg_name (i := 2) sc_law_divided.nd rfl (by first | exact Or.inl rfl | exact Or.inr rfl)) (pgs_cons (pg_name (i := 3) sc_law_divided.nd rfl (by first | exact Or.inl rfl | exact Or.inr rfl)) (pgs_cons (pg_name (i := 4) sc_law_divided.nd rfl (by first | exact Or.inl rfl | exact Or.inr rfl)) pgs_nil))))) (dss_cons (ds_for (p := (.nm 5)) (di_range3 (de_bin o_sub (DE.db (de_fnB (f_len) T.z_len bt_len (dab_cons (db_var (i := 2)) dab_nil))) (DE.db de_int)) (de_bin o_sub (db_var (i := 4)) (DE.db de_int)) (de_un o_neg (DE.db de_int)) T.z_range) (pg_name (i := 5) sc_law_divided.nd rfl (by first | exact Or.inl rfl | exact Or.inr rfl)) (dss_cons (ds_set (i := 6) (de_ix (db_var (i := 2)) (db_var (i := 5))) sc_law_divided.nd) (dss_cons (ds_app (i := 3) (de_var (i := 6))) (dss_cons (ds_for (p := (.tp [(.nm 7), (.nm 8)])) (di_enum (de_var (i := 1)) T.z_enumerate) (pg_tup rfl (pgs_cons (pg_name (i := 7) sc_law_divided.nd rfl (by first | exact Or.inl rfl | exact Or.inr rfl)) (pgs_cons (pg_name (i := 8) sc_law_divided.nd rfl (by first | exact Or.inl rfl | exact Or.inr rfl)) pgs_nil))) (dss_cons (ds_put (i := 2) (de_bin o_sub (DE.db (de_ix (db_var (i := 2)) (DE.db (de_bin o_add (DE.db (de_bin o_sub (db_var (i := 5)) (db_var (i := 4)))) (db_var (i := 7)))))) (DE.db (de_bin o_mulI (db_var (i := 6)) (db_var (i := 8))))) (de_bin o_add (DE.db (de_bin o_sub (db_var (i := 5)) (db_var (i := 4)))) (db_var (i := 7)))) dss_nil)) dss_nil)))) (dss_cons (ds_ret (DF.de (df_rev (db_var (i := 3))))) dss_nil)))
theorem sc_law_ring_polynomial : FnScope ["e", "known", "m", "line", "d"] ["e"] (defScope (top 49)) := ⟨rfl, rfl, rfl, by decide +kernel, rfl, by decide +kernel, by decide +kernel⟩
theorem ok_law_ring_polynomial {f : Addr} {fd : FuncData} (F : Fun K "_law_ring_polynomial" "_law_ring_polynomial" (top 49) f fd) (T : Txt K mg) (H__law_divided : Has P w K mg base "_law_divided" 1 ["line", "by"] f_law_divided) : FnOk P w K mg base CX0 2 f fd ["e"] (spOf K 1 f_law_ring_polynomial) :=
  fn_ok (T := T_law_ring_polynomial) F sc_law_ring_polynomial fun cdv A outer s H _ ex hr => (dss_cons (ds_own (i := 1) df_newK sc_law_ring_polynomial.nd) (dss_cons (ds_for (p := (.nm 2)) (di_range2 de_int (de_bin o_add (db_var (i := 0)) (DE.db de_int)) T.z_range) (pg_name (i := 2) sc_law_ring_polynomial.nd rfl (by first | exact Or.inl rfl | exact Or.inr rfl)) (dss_cons (ds_if (dt_cmp (o_eq hr.units) (DE.db (de_bin o_mod (DE.db (de_fnT (f_int) T.z_int bt_int (dab_cons (db_var (i := 0)) dab_nil))) (db_var (i := 2)))) (DE.db de_int)) (dss_cons (ds_set (i := 3) (DF.de (df_bin o_cat (DE.db (DF.de (df_bin o_cat (DE.db (DF.de (df_lst (da_cons (de_un o_neg (DE.db de_int)) da_nil)))) (DE.db (DF.de (df_bin o_rep (DE.db (DF.de (df_lst (da_cons de_int da_nil)))) (DE.db (de_bin o_sub (db_var (i := 2)) (DE.db de_int))))))))) (DE.db (DF.de (df_lst (da_cons de_int da_nil)))))) sc_law_ring_polynomial.nd) (dss_cons (ds_for (p := (.nm 4)) (di_of (DF.de (df_fnB (f_sorted) T.z_sorted bt_sorted (dab_cons (DE.db (DF.de (df_fnT (f_listA rfl) T.z_list bt_list (dab_cons (db_var (i := 1)) dab_nil)))) dab_nil)))) (pg_name (i := 4) sc_law_ring_polynomial.nd rfl (by first | exact Or.inl rfl | exact Or.inr rfl)) (dss_cons (ds_if (dt_cmp (o_eq hr.units) (DE.db (de_bin o_mod (DE.db (de_fnT (f_int) T.z_int bt_int (dab_cons (db_var (i := 2)) dab_nil))) (db_var (i := 4)))) (DE.db de_int)) (dss_cons (ds_set (i := 3) (de_callH H__law_divided (hr.mono (by decide)) (da_cons (de_var (i := 3)) (da_cons (de_dget hr.units (db_var (i := 1)) (db_var (i := 4))) da_nil))) sc_law_ring_polynomial.nd) dss_nil) dss_nil) dss_nil)) (dss_cons (ds_dkPut (i := 1) hr.units (de_var (i := 3)) (db_var (i := 2))) dss_nil))) dss_nil) dss_nil)) (dss_cons (ds_ret (de_dget hr.units (db_var (i := 1)) (db_var (i := 0)))) dss_nil)))
theorem sc_law_floor : FnScope ["rings", "n", "e", "length", "places", "longer", "place", "x"] ["rings"] (defScope (top 51)) := ⟨rfl, rfl, rfl, by decide +kernel, rfl, by decide +kernel, by decide +kernel⟩
theorem ok_law_floor {f : Addr} {fd : FuncData} (F : Fun K "_law_floor" "_law_floor" (top 51) f fd) (T : Txt K mg) (H__law_common : Has P w K mg base "_law_common" 1 ["one", "other"] f_law_common) (H__law_ring_polynomial : Has P w K mg base "_law_ring_polynomial" 2 ["e"] f_law_ring_polynomial) : FnOk P w K mg base CX0 3 f fd ["rings"] (spOf K 1 f_law_floor) :=
  fn_ok (T := T_law_floor) F sc_law_floor fun cdv A outer s H _ ex hr => (dss_cons (by first | exact ds_par2 (i := 1) (j := 2) (dp_val (i := 1) de_int (dp_val (i := 2) de_int dp_nil)) sc_law_floor.nd (by decide) | exact ds_parT (dp_val (i := 1) de_int (dp_val (i := 2) de_int dp_nil)) (pg_tup rfl (pgs_cons (pg_name (i := 1) sc_law_floor.nd rfl (by first | exact Or.inl rfl | exact Or.inr rfl)) (pgs_cons (pg_name (i := 2) sc_law_floor.nd rfl (by first | exact Or.inl rfl | exact Or.inr rfl)) pgs_nil)))) (dss_cons (ds_for (p := (.nm 3)) (di_of (de_var (i := 0))) (pg_name (i := 3) sc_law_floor.nd rfl (by first | exact Or.inl rfl | exact Or.inr rfl)) (dss_cons (by first | exact ds_par2 (i := 1) (j := 2) (dp_val (i := 1) (de_bin o_mulI (db_var (i := 1)) (db_var (i := 3))) (dp_val (i := 2) (de_bin o_div (DE.db (de_bin o_mulI (db_var (i := 2)) (db_var (i := 3)))) (DE.db (de_callH H__law_common (hr.mono (by decide)) (da_cons (de_var (i := 2)) (da_cons (de_var (i := 3)) da_nil))))) dp_nil)) sc_law_floor.nd (by decide) | exact ds_parT (dp_val (i := 1) (de_bin o_mulI (db_var (i := 1)) (db_var (i := 3))) (dp_val (i := 2) (de_bin o_div (DE.db (de_bin o_mulI (db_var (i := 2)) (db_var (i := 3)))) (DE.db (de_callH H__law_common (hr.mono (by decide)) (da_cons (de_var (i := 2)) (da_cons (de_var (i := 3)) da_nil))))) dp_nil)) (pg_tup rfl (pgs_cons (pg_name (i := 1) sc_law_floor.nd rfl (by first | exact Or.inl rfl | exact Or.inr rfl)) (pgs_cons (pg_name (i := 2) sc_law_floor.nd rfl (by first | exact Or.inl rfl | exact Or.inr rfl)) pgs_nil)))) dss_nil)) (dss_cons (ds_set (i := 4) (DF.de (df_lst (da_cons (de_tup da_nil) da_nil))) sc_law_floor.nd) (dss_cons (ds_for (p := (.nm 3)) (di_of (de_var (i := 0))) (pg_name (i := 3) sc_law_floor.nd rfl (by first | exact Or.inl rfl | exact Or.inr rfl)) (dss_cons (ds_own (i := 5) (df_lst da_nil) sc_law_floor.nd) (dss_cons (ds_for (p := (.nm 6)) (di_of (de_var (i := 4))) (pg_name (i := 6) sc_law_floor.nd rfl (by first | exact Or.inl rfl | exact Or.inr rfl)) (dss_cons (ds_ext (i := 5) (DE.db (DF.de (df_lc (own := [("x", 7)]) (p := (.nm 7)) (di_range1 (de_var (i := 3)) T.z_range) (blkOk_by (N := ["rings", "n", "e", "length", "places", "longer", "place", "x"]) (sc := defScope (top 51)) (by decide +kernel)) sc_law_floor.nd (fun _ _ _ _ _ => (pg_name (i := 7) sc_law_floor.nd rfl (by first | exact Or.inl rfl | exact Or.inr rfl))) (fun _ _ _ _ _ => dts_nil) (fun _ _ _ _ _ => (de_bin o_add (db_var (i := 6)) (DE.db (de_tup (da_cons (de_var (i := 7)) da_nil))))))))) dss_nil)) (dss_cons (ds_frz 5 (ds_set (i := 4) (de_var (i := 5)) sc_law_floor.nd)) dss_nil)))) (dss_cons (ds_ret (DF.de (df_disp (ks := ["rings", "n", "e", "poly", "places"]) (dpp_cons (de_var (i := 0)) (dpp_cons (de_var (i := 1)) (dpp_cons (de_var (i := 2)) (dpp_cons (de_callH H__law_ring_polynomial (hr.mono (by decide)) (da_cons (de_var (i := 2)) da_nil)) (dpp_cons (de_var (i := 4)) dpp_nil)))))))) dss_nil)))))
theorem sc_law_pairing : FnScope ["floor", "place", "label", "e", "x", "k", "length"] ["floor", "place", "label"] (defScope (top 52)) := ⟨rfl, rfl, rfl, by decide +kernel, rfl, by decide +kernel, by decide +kernel⟩
theorem ok_law_pairing {f : Addr} {fd : FuncData} (F : Fun K "_law_pairing" "_law_pairing" (top 52) f fd) (T : Txt K mg)  : FnOk P w K mg base CX0 1 f fd ["floor", "place", "label"] (spOf K 3 f_law_pairing) :=
  fn_ok (T := T_law_pairing) F sc_law_pairing fun cdv A outer s H _ ex hr => (dss_cons (ds_set (i := 3) (de_dget hr.units (db_var (i := 0)) (DE.db de_str)) sc_law_pairing.nd) (dss_cons (ds_ret (de_bin o_mod (DE.db (de_fnT (f_int) T.z_int bt_int (dab_cons (DE.db (de_fnB (f_sum rfl) T.z_sum bt_sum (dab_cons (DE.db (DF.de (df_lc (own := [("x", 4), ("k", 5), ("length", 6)]) (p := (.tp [(.nm 4), (.nm 5), (.nm 6)])) (di_zip3 (de_var (i := 1)) (de_var (i := 2)) (de_dget hr.units (db_var (i := 0)) (DE.db de_str)) T.z_zip) (blkOk_by (N := ["floor", "place", "label", "e", "x", "k", "length"]) (sc := defScope (top 52)) (by decide +kernel)) sc_law_pairing.nd (fun _ _ _ _ _ => (pg_tup rfl (pgs_cons (pg_name (i := 4) sc_law_pairing.nd rfl (by first | exact Or.inl rfl | exact Or.inr rfl)) (pgs_cons (pg_name (i := 5) sc_law_pairing.nd rfl (by first | exact Or.inl rfl | exact Or.inr rfl)) (pgs_cons (pg_name (i := 6) sc_law_pairing.nd rfl (by first | exact Or.inl rfl | exact Or.inr rfl)) pgs_nil))))) (fun _ _ _ _ _ => dts_nil) (fun _ _ _ _ _ => (de_bin o_mulI (DE.db (de_bin o_mulI (db_var (i := 4)) (db_var (i := 5)))) (DE.db (de_bin o_div (db_var (i := 3)) (db_var (i := 6))))))))) dab_nil))) dab_nil))) (db_var (i := 3)))) dss_nil))
theorem sc_law_root : FnScope ["e", "q", "found", "base", "left", "go"] ["e"] (defScope (top 53)) := ⟨rfl, rfl, rfl, by decide +kernel, rfl, by decide +kernel, by decide +kernel⟩
theorem ok_law_root {f : Addr} {fd : FuncData} (F : Fun K "_law_root" "_law_root" (top 53) f fd) (T : Txt K mg)  : FnOk P w K mg base CX0 1 f fd ["e"] (spOf K 1 f_law_root) :=
  fn_ok (T := T_law_root) F sc_law_root fun cdv A outer s H _ ex hr => (dss_cons (by first | exact ds_parT (dp_val (i := 1) (de_bin o_add (DE.db (de_bin o_pow (DE.db de_int) (DE.db de_int))) (DE.db de_int)) (dp_val (i := 2) de_int (dp_val (i := 3) de_int (dp_val (i := 4) (de_bin o_div (DE.db de_int) (db_var (i := 0))) dp_nil)))) (pg_tup rfl (pgs_cons (pg_name (i := 1) sc_law_root.nd rfl (by first | exact Or.inl rfl | exact Or.inr rfl)) (pgs_cons (pg_name (i := 2) sc_law_root.nd rfl (by first | exact Or.inl rfl | exact Or.inr rfl)) (pgs_cons (pg_name (i := 3) sc_law_root.nd rfl (by first | exact Or.inl rfl | exact Or.inr rfl)) (pgs_cons (pg_name (i := 4) sc_law_root.nd rfl (by first | exact Or.inl rfl | exact Or.inr rfl)) pgs_nil)))))) (dss_cons (ds_for (p := (.nm 5)) (di_range1 de_int T.z_range) (pg_name (i := 5) sc_law_root.nd rfl (by first | exact Or.inl rfl | exact Or.inr rfl)) (dss_cons (ds_if (dt_cmp (o_eq hr.units) (db_var (i := 4)) (DE.db de_int)) (dss_cons ds_brk dss_nil) dss_nil) (dss_cons (ds_if (dt_cmp (o_eq hr.units) (DE.db (de_bin o_mod (DE.db (de_fnT (f_int) T.z_int bt_int (dab_cons (db_var (i := 4)) dab_nil))) (DE.db de_int))) (DE.db de_int)) (dss_cons (ds_set (i := 2) (de_bin o_mod (DE.db (de_fnT (f_int) T.z_int bt_int (dab_cons (DE.db (de_bin o_mulI (db_var (i := 2)) (db_var (i := 3)))) dab_nil))) (db_var (i := 1))) sc_law_root.nd) dss_nil) dss_nil) (dss_cons (by first | exact ds_par2 (i := 3) (j := 4) (dp_val (i := 3) (de_bin o_mod (DE.db (de_fnT (f_int) T.z_int bt_int (dab_cons (DE.db (de_bin o_mulI (db_var (i := 3)) (db_var (i := 3)))) dab_nil))) (db_var (i := 1))) (dp_val (i := 4) (de_bin o_div (db_var (i := 4)) (DE.db de_int)) dp_nil)) sc_law_root.nd (by decide) | exact ds_parT (dp_val (i := 3) (de_bin o_mod (DE.db (de_fnT (f_int) T.z_int bt_int (dab_cons (DE.db (de_bin o_mulI (db_var (i := 3)) (db_var (i := 3)))) dab_nil))) (db_var (i := 1))) (dp_val (i := 4) (de_bin o_div (db_var (i := 4)) (DE.db de_int)) dp_nil)) (pg_tup rfl (pgs_cons (pg_name (i := 3) sc_law_root.nd rfl (by first | exact Or.inl rfl | exact Or.inr rfl)) (pgs_cons (pg_name (i := 4) sc_law_root.nd rfl (by first | exact Or.inl rfl | exact Or.inr rfl)) pgs_nil)))) dss_nil)))) (dss_cons (ds_ret (de_var (i := 2))) dss_nil)))
theorem sc_law_lines : FnScope ["floor", "places", "labels", "q", "powers", "root", "go", "place", "label"] ["floor", "places", "labels"] (defScope (top 54)) := ⟨rfl, rfl, rfl, by decide +kernel, rfl, by decide +kernel, by decide +kernel⟩
theorem ok_law_lines {f : Addr} {fd : FuncData} (F : Fun K "_law_lines" "_law_lines" (top 54) f fd) (T : Txt K mg) (H__law_pairing : Has P w K mg base "_law_pairing" 1 ["floor", "place", "label"] f_law_pairing) (H__law_root : Has P w K mg base "_law_root" 1 ["e"] f_law_root) : FnOk P w K mg base CX0 2 f fd ["floor", "places", "labels"] (spOf K 3 f_law_lines) :=
  fn_ok (T := T_law_lines) F sc_law_lines fun cdv A outer s H _ ex hr => (dss_cons (by first | exact ds_par3 (i := 3) (j := 4) (l := 5) (dp_val (i := 3) (de_bin o_add (DE.db (de_bin o_pow (DE.db de_int) (DE.db de_int))) (DE.db de_int)) (dp_own (i := 4) (df_lst (da_cons de_int da_nil)) (dp_val (i := 5) (de_callH H__law_root (hr.mono (by decide)) (da_cons (de_dget hr.units (db_var (i := 0)) (DE.db de_str)) da_nil)) dp_nil))) sc_law_lines.nd (by decide) (by decide) (by decide) | exact ds_parT (dp_val (i := 3) (de_bin o_add (DE.db (de_bin o_pow (DE.db de_int) (DE.db de_int))) (DE.db de_int)) (dp_own (i := 4) (df_lst (da_cons de_int da_nil)) (dp_val (i := 5) (de_callH H__law_root (hr.mono (by decide)) (da_cons (de_dget hr.units (db_var (i := 0)) (DE.db de_str)) da_nil)) dp_nil))) (pg_tup rfl (pgs_cons (pg_name (i := 3) sc_law_lines.nd rfl (by first | exact Or.inl rfl | exact Or.inr rfl)) (pgs_cons (pg_name (i := 4) sc_law_lines.nd rfl (by first | exact Or.inl rfl | exact Or.inr rfl)) (pgs_cons (pg_name (i := 5) sc_law_lines.nd rfl (by first | exact Or.inl rfl | exact Or.inr rfl)) pgs_nil))))) (dss_cons (ds_for (p := (.nm 6)) (di_range1 (de_bin o_sub (DE.db (de_dget hr.units (db_var (i := 0)) (DE.db de_str))) (DE.db de_int)) T.z_range) (pg_name (i := 6) sc_law_lines.nd rfl (by first | exact Or.inl rfl | exact Or.inr rfl)) (dss_cons (ds_app (i := 4) (de_bin o_mod (DE.db (de_fnT (f_int) T.z_int bt_int (dab_cons (DE.db (de_bin o_mulI (DE.db (de_ix (db_var (i := 4)) (DE.db (de_un o_neg (DE.db de_int))))) (db_var (i := 5)))) dab_nil))) (db_var (i := 3)))) dss_nil)) (dss_cons (ds_ret (DF.de (df_lc (own := [("label", 8)]) (p := (.nm 8)) (di_of (de_var (i := 2))) (blkOk_by (N := ["floor", "places", "labels", "q", "powers", "root", "go", "place", "label"]) (sc := defScope (top 54)) (by decide +kernel)) sc_law_lines.nd (fun _ _ _ _ _ => (pg_name (i := 8) sc_law_lines.nd rfl (by first | exact Or.inl rfl | exact Or.inr rfl))) (fun _ _ _ _ _ => dts_nil) (fun _ _ _ _ _ => (DF.de (df_lc (own := [("place", 7)]) (p := (.nm 7)) (di_of (de_var (i := 1))) (blkOk_in (N := ["floor", "places", "labels", "q", "powers", "root", "go", "place", "label"]) (by decide +kernel)) sc_law_lines.nd (fun _ _ _ _ _ => (pg_name (i := 7) sc_law_lines.nd rfl (by first | exact Or.inl rfl | exact Or.inr rfl))) (fun _ _ _ _ _ => dts_nil) (fun _ _ _ _ _ => (de_ix (db_var (i := 4)) (DE.db (de_callH H__law_pairing (hr.mono (by decide)) (da_cons (de_var (i := 0)) (da_cons (de_var (i := 7)) (da_cons (de_var (i := 8)) da_nil))))))))))))) dss_nil)))
theorem sc_law_rank : FnScope ["lines", "q", "left", "rank", "line", "at", "some", "i", "first", "later", "x", "y", "a", "b"] ["lines"] (defScope (top 55)) := ⟨rfl, rfl, rfl, by decide +kernel, rfl, by decide +kernel, by decide +kernel⟩
theorem ok_law_rank {f : Addr} {fd : FuncData} (F : Fun K "_law_rank" "_law_rank" (top 55) f fd) (T : Txt K mg)  : FnOk P w K mg base CX0 1 f fd ["lines"] (spOf K 1 f_law_rank) :=
  fn_ok (T := T_law_rank) F sc_law_rank fun cdv A outer s H _ ex hr => (dss_cons (by first | exact ds_par3 (i := 1) (j := 2) (l := 3) (dp_val (i := 1) (de_bin o_add (DE.db (de_bin o_pow (DE.db de_int) (DE.db de_int))) (DE.db de_int)) (dp_val (i := 2) (DF.de (df_lc (own := [("line", 4)]) (p := (.nm 4)) (di_of (de_var (i := 0))) (blkOk_by (N := ["lines", "q", "left", "rank", "line", "at", "some", "i", "first", "later", "x", "y", "a", "b"]) (sc := defScope (top 55)) (by decide +kernel)) sc_law_rank.nd (fun _ _ _ _ _ => (pg_name (i := 4) sc_law_rank.nd rfl (by first | exact Or.inl rfl | exact Or.inr rfl))) (fun _ _ _ _ _ => dts_nil) (fun _ _ _ _ _ => (DF.de (df_fnT (f_listA rfl) T.z_list bt_list (dab_cons (db_var (i := 4)) dab_nil)))))) (dp_val (i := 3) de_int dp_nil))) sc_law_rank.nd (by decide) (by decide) (by decide) | exact ds_parT (dp_val (i := 1) (de_bin o_add (DE.db (de_bin o_pow (DE.db de_int) (DE.db de_int))) (DE.db de_int)) (dp_val (i := 2) (DF.de (df_lc (own := [("line", 4)]) (p := (.nm 4)) (di_of (de_var (i := 0))) (blkOk_by (N := ["lines", "q", "left", "rank", "line", "at", "some", "i", "first", "later", "x", "y", "a", "b"]) (sc := defScope (top 55)) (by decide +kernel)) sc_law_rank.nd (fun _ _ _ _ _ => (pg_name (i := 4) sc_law_rank.nd rfl (by first | exact Or.inl rfl | exact Or.inr rfl))) (fun _ _ _ _ _ => dts_nil) (fun _ _ _ _ _ => (DF.de (df_fnT (f_listA rfl) T.z_list bt_list (dab_cons (db_var (i := 4)) dab_nil)))))) (dp_val (i := 3) de_int dp_nil))) (pg_tup rfl (pgs_cons (pg_name (i := 1) sc_law_rank.nd rfl (by first | exact Or.inl rfl | exact Or.inr rfl)) (pgs_cons (pg_name (i := 2) sc_law_rank.nd rfl (by first | exact Or.inl rfl | exact Or.inr rfl)) (pgs_cons (pg_name (i := 3) sc_law_rank.nd rfl (by first | exact Or.inl rfl | exact Or.inr rfl)) pgs_nil))))) (dss_cons (ds_for (p := (.nm 5)) (di_range1 (de_if (dt_cmp (o_ne hr.units) (db_var (i := 2)) (DE.db (DF.de (df_lst da_nil)))) (de_fnB (f_len) T.z_len bt_len (dab_cons (DE.db (de_ix (db_var (i := 2)) (DE.db de_int))) dab_nil)) de_int) T.z_range) (pg_name (i := 5) sc_law_rank.nd rfl (by first | exact Or.inl rfl | exact Or.inr rfl)) (dss_cons (by first | exact asg_set (i := 6) (ps_lcA (own := [("i", 7), ("line", 4)]) (p := (.tp [(.nm 7), (.nm 4)])) (di_enum (de_var (i := 2)) T.z_enumerate) (blkOk_by (N := ["lines", "q", "left", "rank", "line", "at", "some", "i", "first", "later", "x", "y", "a", "b"]) (sc := defScope (top 55)) (by decide +kernel)) sc_law_rank.nd (fun _ _ _ _ _ => (pg_tup rfl (pgs_cons (pg_name (i := 7) sc_law_rank.nd rfl (by first | exact Or.inl rfl | exact Or.inr rfl)) (pgs_cons (pg_name (i := 4) sc_law_rank.nd rfl (by first | exact Or.inl rfl | exact Or.inr rfl)) pgs_nil)))) (fun _ _ _ _ _ => dts_one (dt_cmp (o_ne hr.units) (DE.db (de_ix (db_var (i := 4)) (db_var (i := 5)))) (DE.db de_int))) (fun _ _ _ _ _ => (de_var (i := 7))) (sw_true rfl rfl rfl (by decide +kernel))) | exact ds_set (i := 6) (DF.de (df_lc (own := [("i", 7), ("line", 4)]) (p := (.tp [(.nm 7), (.nm 4)])) (di_enum (de_var (i := 2)) T.z_enumerate) (blkOk_by (N := ["lines", "q", "left", "rank", "line", "at", "some", "i", "first", "later", "x", "y", "a", "b"]) (sc := defScope (top 55)) (by decide +kernel)) sc_law_rank.nd (fun _ _ _ _ _ => (pg_tup rfl (pgs_cons (pg_name (i := 7) sc_law_rank.nd rfl (by first | exact Or.inl rfl | exact Or.inr rfl)) (pgs_cons (pg_name (i := 4) sc_law_rank.nd rfl (by first | exact Or.inl rfl | exact Or.inr rfl)) pgs_nil)))) (fun _ _ _ _ _ => dts_one (dt_cmp (o_ne hr.units) (DE.db (de_ix (db_var (i := 4)) (db_var (i := 5)))) (DE.db de_int))) (fun _ _ _ _ _ => (de_var (i := 7))))) sc_law_rank.nd) (dss_cons (ds_if (dt_cmp (o_eq hr.units) (db_var (i := 6)) (DE.db (DF.de (df_lst da_nil)))) (dss_cons ds_cnt dss_nil) dss_nil) (dss_cons (by first | exact ds_par3 (i := 8) (j := 9) (l := 3) (dp_val (i := 8) (de_ix (db_var (i := 2)) (DE.db (de_ix (db_var (i := 6)) (DE.db de_int)))) (dp_own (i := 9) (df_lst da_nil) (dp_val (i := 3) (de_bin o_add (db_var (i := 3)) (DE.db de_int)) dp_nil))) sc_law_rank.nd (by decide) (by decide) (by decide) | exact ds_parT (dp_val (i := 8) (de_ix (db_var (i := 2)) (DE.db (de_ix (db_var (i := 6)) (DE.db de_int)))) (dp_own (i := 9) (df_lst da_nil) (dp_val (i := 3) (de_bin o_add (db_var (i := 3)) (DE.db de_int)) dp_nil))) (pg_tup rfl (pgs_cons (pg_name (i := 8) sc_law_rank.nd rfl (by first | exact Or.inl rfl | exact Or.inr rfl)) (pgs_cons (pg_name (i := 9) sc_law_rank.nd rfl (by first | exact Or.inl rfl | exact Or.inr rfl)) (pgs_cons (pg_name (i := 3) sc_law_rank.nd rfl (by first | exact Or.inl rfl | exact Or.inr rfl)) pgs_nil))))) (dss_cons (ds_for (p := (.nm 4)) (di_of (DF.de (df_bin o_cat (DE.db (DF.de (df_slL (db_var (i := 2)) do_none (do_some (DE.db (de_ix (db_var (i := 6)) (DE.db de_int))))))) (DE.db (DF.de (df_slL (db_var (i := 2)) (do_some (DE.db (de_bin o_add (DE.db (de_ix (db_var (i := 6)) (DE.db de_int))) (DE.db de_int)))) do_none)))))) (pg_name (i := 4) sc_law_rank.nd rfl (by first | exact Or.inl rfl | exact Or.inr rfl)) (dss_cons (by first | exact ds_par2 (i := 10) (j := 11) (dp_val (i := 10) (de_ix (db_var (i := 8)) (db_var (i := 5))) (dp_val (i := 11) (de_ix (db_var (i := 4)) (db_var (i := 5))) dp_nil)) sc_law_rank.nd (by decide) | exact ds_parT (dp_val (i := 10) (de_ix (db_var (i := 8)) (db_var (i := 5))) (dp_val (i := 11) (de_ix (db_var (i := 4)) (db_var (i := 5))) dp_nil)) (pg_tup rfl (pgs_cons (pg_name (i := 10) sc_law_rank.nd rfl (by first | exact Or.inl rfl | exact Or.inr rfl)) (pgs_cons (pg_name (i := 11) sc_law_rank.nd rfl (by first | exact Or.inl rfl | exact Or.inr rfl)) pgs_nil)))) (dss_cons (ds_app (i := 9) (de_if (dt_cmp (o_eq hr.units) (db_var (i := 11)) (DE.db de_int)) (de_var (i := 4)) (DF.de (df_lc (own := [("a", 12), ("b", 13)]) (p := (.tp [(.nm 12), (.nm 13)])) (di_zip2 (de_var (i := 8)) (de_var (i := 4)) T.z_zip) (blkOk_by (N := ["lines", "q", "left", "rank", "line", "at", "some", "i", "first", "later", "x", "y", "a", "b"]) (sc := defScope (top 55)) (by decide +kernel)) sc_law_rank.nd (fun _ _ _ _ _ => (pg_tup rfl (pgs_cons (pg_name (i := 12) sc_law_rank.nd rfl (by first | exact Or.inl rfl | exact Or.inr rfl)) (pgs_cons (pg_name (i := 13) sc_law_rank.nd rfl (by first | exact Or.inl rfl | exact Or.inr rfl)) pgs_nil)))) (fun _ _ _ _ _ => dts_nil) (fun _ _ _ _ _ => (de_bin o_mod (DE.db (de_fnT (f_int) T.z_int bt_int (dab_cons (DE.db (de_bin o_sub (DE.db (de_bin o_mulI (db_var (i := 10)) (db_var (i := 13)))) (DE.db (de_bin o_mulI (db_var (i := 11)) (db_var (i := 12)))))) dab_nil))) (db_var (i := 1)))))))) dss_nil))) (dss_cons (ds_frz 9 (ds_set (i := 2) (de_var (i := 9)) sc_law_rank.nd)) (dss_cons (ds_if (dt_cmp (o_eq hr.units) (db_var (i := 2)) (DE.db (DF.de (df_lst da_nil)))) (dss_cons ds_brk dss_nil) dss_nil) dss_nil))))))) (dss_cons (ds_ret (de_var (i := 3))) dss_nil)))
theorem sc_law_least : FnScope ["n", "k", "found", "d", "p", "j"] ["n", "k"] (defScope (top 56)) := ⟨rfl, rfl, rfl, by decide +kernel, rfl, by decide +kernel, by decide +kernel⟩
theorem ok_law_least {f : Addr} {fd : FuncData} (F : Fun K "_law_least" "_law_least" (top 56) f fd) (T : Txt K mg)  : FnOk P w K mg base CX0 1 f fd ["n", "k"] (spOf K 2 f_law_least) :=
  fn_ok (T := T_law_least) F sc_law_least fun cdv A outer s H _ ex hr => (dss_cons (ds_own (i := 2) (df_lst da_nil) sc_law_least.nd) (dss_cons (ds_for (p := (.nm 3)) (di_range2 de_int (de_bin o_add (db_var (i := 0)) (DE.db de_int)) T.z_range) (pg_name (i := 3) sc_law_least.nd rfl (by first | exact Or.inl rfl | exact Or.inr rfl)) (dss_cons (ds_for (p := (.nm 4)) (di_of (de_tup (da_cons de_int (da_cons de_int (da_cons de_int (da_cons de_int (da_cons de_int (da_cons de_int (da_cons de_int (da_cons de_int (da_cons de_int (da_cons de_int (da_cons de_int (da_cons de_int (da_cons de_int (da_cons de_int (da_cons de_int (da_cons de_int (da_cons de_int da_nil))))))))))))))))))) (pg_name (i := 4) sc_law_least.nd rfl (by first | exact Or.inl rfl | exact Or.inr rfl)) (dss_cons (ds_if (dt_cmp (o_eq hr.units) (DE.db (de_bin o_mod (DE.db (de_fnT (f_int) T.z_int bt_int (dab_cons (db_var (i := 0)) dab_nil))) (DE.db (de_bin o_mulI (db_var (i := 3)) (db_var (i := 4)))))) (DE.db de_int)) (dss_cons (ds_ext (i := 2) (DE.db (DF.de (df_lc (own := [("j", 5)]) (p := (.nm 5)) (di_range2 de_int (de_bin o_add (db_var (i := 4)) (DE.db de_int)) T.z_range) (blkOk_by (N := ["n", "k", "found", "d", "p", "j"]) (sc := defScope (top 56)) (by decide +kernel)) sc_law_least.nd (fun _ _ _ _ _ => (pg_name (i := 5) sc_law_least.nd rfl (by first | exact Or.inl rfl | exact Or.inr rfl))) (fun _ _ _ _ _ => dts_one (dt_cmp (o_le hr.units) (DE.db (de_bin o_mulI (db_var (i := 3)) (db_var (i := 5)))) (db_var (i := 1)))) (fun _ _ _ _ _ => (de_bin o_mulI (DE.db (de_bin o_div (db_var (i := 0)) (DE.db (de_bin o_mulI (db_var (i := 3)) (db_var (i := 4)))))) (DE.db (de_bin o_sub (DE.db (de_bin o_add (db_var (i := 4)) (DE.db de_int))) (db_var (i := 5)))))))))) dss_nil) dss_nil) dss_nil)) dss_nil)) (dss_cons (ds_ret (de_fnB (f_min1 rfl) T.z_min bt_min (dab_cons (db_var (i := 2)) dab_nil))) dss_nil)))
theorem sc_law_lots_of : FnScope ["some", "many", "found", "turn", "longer", "lot", "start", "it"] ["some", "many"] (defScope (top 57)) := ⟨rfl, rfl, rfl, by decide +kernel, rfl, by decide +kernel, by decide +kernel⟩
theorem ok_law_lots_of {f : Addr} {fd : FuncData} (F : Fun K "_law_lots_of" "_law_lots_of" (top 57) f fd) (T : Txt K mg)  : FnOk P w K mg base CX0 1 f fd ["some", "many"] (spOf K 2 f_law_lots_of) :=
  fn_ok (T := T_law_lots_of) F sc_law_lots_of fun cdv A outer s H _ ex hr => (dss_cons (ds_set (i := 2) (DF.de (df_lst (da_cons (de_tup da_nil) da_nil))) sc_law_lots_of.nd) (dss_cons (ds_for (p := (.nm 3)) (di_range1 (de_var (i := 1)) T.z_range) (pg_name (i := 3) sc_law_lots_of.nd rfl (by first | exact Or.inl rfl | exact Or.inr rfl)) (dss_cons (ds_own (i := 4) (df_lst da_nil) sc_law_lots_of.nd) (dss_cons (ds_for (p := (.nm 5)) (di_of (de_var (i := 2))) (pg_name (i := 5) sc_law_lots_of.nd rfl (by first | exact Or.inl rfl | exact Or.inr rfl)) (dss_cons (ds_set (i := 6) (de_if (dt_cmp (o_ne hr.units) (db_var (i := 5)) (DE.db (de_tup da_nil))) (de_bin o_add (DE.db (de_idx hr.units65 (db_var (i := 0)) (DE.db (de_ix (db_var (i := 5)) (DE.db (de_un o_neg (DE.db de_int))))))) (DE.db de_int)) de_int) sc_law_lots_of.nd) (dss_cons (ds_ext (i := 4) (DE.db (DF.de (df_lc (own := [("it", 7)]) (p := (.nm 7)) (di_of (DF.de (df_slL (db_var (i := 0)) (do_some (db_var (i := 6))) do_none))) (blkOk_by (N := ["some", "many", "found", "turn", "longer", "lot", "start", "it"]) (sc := defScope (top 57)) (by decide +kernel)) sc_law_lots_of.nd (fun _ _ _ _ _ => (pg_name (i := 7) sc_law_lots_of.nd rfl (by first | exact Or.inl rfl | exact Or.inr rfl))) (fun _ _ _ _ _ => dts_nil) (fun _ _ _ _ _ => (de_bin o_add (db_var (i := 5)) (DE.db (de_tup (da_cons (de_var (i := 7)) da_nil))))))))) dss_nil))) (dss_cons (ds_frz 4 (ds_set (i := 2) (de_var (i := 4)) sc_law_lots_of.nd)) dss_nil)))) (dss_cons (ds_ret (de_var (i := 2))) dss_nil)))
theorem sc_law_tells : FnScope ["floor", "labels", "k", "e", "many", "off", "start", "kept", "lot", "places", "some"] ["floor", "labels", "k", "e"] (defScope (top 58)) := ⟨rfl, rfl, rfl, by decide +kernel, rfl, by decide +kernel, by decide +kernel⟩
theorem ok_law_tells {f : Addr} {fd : FuncData} (F : Fun K "_law_tells" "_law_tells" (top 58) f fd) (T : Txt K mg) (H__law_lines : Has P w K mg base "_law_lines" 2 ["floor", "places", "labels"] f_law_lines) (H__law_lots_of : Has P w K mg base "_law_lots_of" 1 ["some", "many"] f_law_lots_of) (H__law_rank : Has P w K mg base "_law_rank" 1 ["lines"] f_law_rank) : FnOk P w K mg base CX0 3 f fd ["floor", "labels", "k", "e"] (spOf K 4 f_law_tells) :=
  fn_ok (T := T_law_tells) F sc_law_tells fun cdv A outer s H _ ex hr => (dss_cons (by first | exact ds_par2 (i := 4) (j := 5) (dp_val (i := 4) (de_fnB (f_min2 rfl) T.z_min bt_min (dab_cons (DE.db (de_bin o_mulI (DE.db de_int) (db_var (i := 2)))) (dab_cons (DE.db (de_dget hr.units (db_var (i := 0)) (DE.db de_str))) dab_nil))) (dp_val (i := 5) (de_fnB (f_min2 rfl) T.z_min bt_min (dab_cons (DE.db (de_bin o_mulI (DE.db de_int) (db_var (i := 3)))) (dab_cons (DE.db (de_fnB (f_len) T.z_len bt_len (dab_cons (db_var (i := 1)) dab_nil))) dab_nil))) dp_nil)) sc_law_tells.nd (by decide) | exact ds_parT (dp_val (i := 4) (de_fnB (f_min2 rfl) T.z_min bt_min (dab_cons (DE.db (de_bin o_mulI (DE.db de_int) (db_var (i := 2)))) (dab_cons (DE.db (de_dget hr.units (db_var (i := 0)) (DE.db de_str))) dab_nil))) (dp_val (i := 5) (de_fnB (f_min2 rfl) T.z_min bt_min (dab_cons (DE.db (de_bin o_mulI (DE.db de_int) (db_var (i := 3)))) (dab_cons (DE.db (de_fnB (f_len) T.z_len bt_len (dab_cons (db_var (i := 1)) dab_nil))) dab_nil))) dp_nil)) (pg_tup rfl (pgs_cons (pg_name (i := 4) sc_law_tells.nd rfl (by first | exact Or.inl rfl | exact Or.inr rfl)) (pgs_cons (pg_name (i := 5) sc_law_tells.nd rfl (by first | exact Or.inl rfl | exact Or.inr rfl)) pgs_nil)))) (dss_cons (ds_if (dt_cmp (o_lt hr.units) (DE.db (de_bin o_sub (DE.db (de_fnB (f_len) T.z_len bt_len (dab_cons (db_var (i := 1)) dab_nil))) (db_var (i := 5)))) (db_var (i := 4))) (dss_cons (ds_ret de_bl) dss_nil) dss_nil) (dss_cons (by first | exact ds_par2 (i := 6) (j := 7) (dp_val (i := 6) (de_ix (DE.db (de_dget hr.units (db_var (i := 0)) (DE.db de_str))) (DE.db de_int)) (dp_val (i := 7) (de_callH H__law_lots_of (hr.mono (by decide)) (da_cons (DF.de (df_fnT (f_listA rfl) T.z_list bt_list (dab_cons (db_var (i := 1)) dab_nil))) (da_cons (de_bin o_sub (DE.db (de_fnB (f_len) T.z_len bt_len (dab_cons (db_var (i := 1)) dab_nil))) (db_var (i := 5))) da_nil))) dp_nil)) sc_law_tells.nd (by decide) | exact ds_parT (dp_val (i := 6) (de_ix (DE.db (de_dget hr.units (db_var (i := 0)) (DE.db de_str))) (DE.db de_int)) (dp_val (i := 7) (de_callH H__law_lots_of (hr.mono (by decide)) (da_cons (DF.de (df_fnT (f_listA rfl) T.z_list bt_list (dab_cons (db_var (i := 1)) dab_nil))) (da_cons (de_bin o_sub (DE.db (de_fnB (f_len) T.z_len bt_len (dab_cons (db_var (i := 1)) dab_nil))) (db_var (i := 5))) da_nil))) dp_nil)) (pg_tup rfl (pgs_cons (pg_name (i := 6) sc_law_tells.nd rfl (by first | exact Or.inl rfl | exact Or.inr rfl)) (pgs_cons (pg_name (i := 7) sc_law_tells.nd rfl (by first | exact Or.inl rfl | exact Or.inr rfl)) pgs_nil)))) (dss_cons (ds_for (p := (.nm 8)) (di_of (de_callH H__law_lots_of (hr.mono (by decide)) (da_cons (DF.de (df_slL (DE.db (de_dget hr.units (db_var (i := 0)) (DE.db de_str))) (do_some (DE.db de_int)) do_none)) (da_cons (de_bin o_sub (db_var (i := 4)) (DE.db de_int)) da_nil)))) (pg_name (i := 8) sc_law_tells.nd rfl (by first | exact Or.inl rfl | exact Or.inr rfl)) (dss_cons (ds_set (i := 9) (de_bin o_add (DE.db (de_tup (da_cons (de_var (i := 6)) da_nil))) (db_var (i := 8))) sc_law_tells.nd) (dss_cons (ds_for (p := (.nm 10)) (di_of (de_var (i := 7))) (pg_name (i := 10) sc_law_tells.nd rfl (by first | exact Or.inl rfl | exact Or.inr rfl)) (dss_cons (ds_if (dt_cmp (o_lt hr.units) (DE.db (de_callH H__law_rank (hr.mono (by decide)) (da_cons (de_callH H__law_lines (hr.mono (by decide)) (da_cons (de_var (i := 0)) (da_cons (de_var (i := 9)) (da_cons (de_var (i := 10)) da_nil)))) da_nil))) (db_var (i := 4))) (dss_cons (ds_ret de_bl) dss_nil) dss_nil) dss_nil)) dss_nil))) (dss_cons (ds_ret de_bl) dss_nil)))))
theorem sc_law_tiny_floor : FnScope ["deck", "some"] ["deck"] (defScope (top 59)) := ⟨rfl, rfl, rfl, by decide +kernel, rfl, by decide +kernel, by decide +kernel⟩
theorem ok_law_tiny_floor {f : Addr} {fd : FuncData} (F : Fun K "_law_tiny_floor" "_law_tiny_floor" (top 59) f fd) (T : Txt K mg) (H__law_draw : Has P w K mg base "_law_draw" 1 ["deck", "below"] E.draw) (H__law_floor : Has P w K mg base "_law_floor" 3 ["rings"] f_law_floor) (H__law_pick : Has P w K mg base "_law_pick" 2 ["deck", "some"] (f_law_pick E)) : FnOk P w K mg base CX0 4 f fd ["deck"] (spOf K 1 (f_law_tiny_floor E)) :=
  fn_ok (T := T_law_tiny_floor E) F sc_law_tiny_floor fun cdv A outer s H _ ex hr => (dss_cons (ds_set (i := 1) (DF.de (df_lst (da_cons (de_tup (da_cons de_int da_nil)) (da_cons (de_tup (da_cons de_int da_nil)) (da_cons (de_tup (da_cons de_int da_nil)) (da_cons (de_tup (da_cons de_int (da_cons de_int da_nil))) (da_cons (de_tup (da_cons de_int da_nil)) (da_cons (de_tup (da_cons de_int (da_cons de_int da_nil))) (da_cons (de_tup (da_cons de_int da_nil)) (da_cons (de_tup (da_cons de_int da_nil)) (da_cons (de_tup (da_cons de_int da_nil)) (da_cons (de_tup (da_cons de_int (da_cons de_int da_nil))) (da_cons (de_tup (da_cons de_int da_nil)) (da_cons (de_tup (da_cons de_int da_nil)) da_nil)))))))))))))) sc_law_tiny_floor.nd) (dss_cons (ds_ret (de_callH H__law_floor (hr.mono (by decide)) (da_cons (de_if (dt_cmp (o_gt hr.units) (DE.db (de_callH H__law_draw (hr.mono (by decide)) (da_cons (de_var (i := 0)) (da_cons de_int da_nil)))) (DE.db de_int)) (de_callH H__law_pick (hr.mono (by decide)) (da_cons (de_var (i := 0)) (da_cons (de_var (i := 1)) da_nil))) (de_callH H__law_pick (hr.mono (by decide)) (da_cons (de_var (i := 0)) (da_cons (DF.de (df_lst (da_cons (de_tup (da_cons de_int da_nil)) (da_cons (de_tup (da_cons de_int da_nil)) (da_cons (de_tup (da_cons de_int (da_cons de_int da_nil))) (da_cons (de_tup (da_cons de_int (da_cons de_int (da_cons de_int da_nil)))) da_nil)))))) da_nil)))) da_nil))) dss_nil))
theorem sc_law_sure : FnScope ["n", "k", "e", "found"] ["n", "k", "e"] (defScope (top 60)) := ⟨rfl, rfl, rfl, by decide +kernel, rfl, by decide +kernel, by decide +kernel⟩
theorem ok_law_sure {f : Addr} {fd : FuncData} (F : Fun K "_law_sure" "_law_sure" (top 60) f fd) (T : Txt K mg) (H__law_least : Has P w K mg base "_law_least" 1 ["n", "k"] f_law_least) : FnOk P w K mg base CX0 2 f fd ["n", "k", "e"] (spOf K 3 f_law_sure) :=
  fn_ok (T := T_law_sure) F sc_law_sure fun cdv A outer s H _ ex hr => (dss_cons (ds_set (i := 3) (de_bin o_add (DE.db (de_bin o_sub (DE.db (de_bin o_add (db_var (i := 0)) (DE.db de_int))) (DE.db (de_callH H__law_least (hr.mono (by decide)) (da_cons (de_var (i := 0)) (da_cons (de_fnB (f_min2 rfl) T.z_min bt_min (dab_cons (DE.db (de_bin o_mulI (DE.db de_int) (db_var (i := 1)))) (dab_cons (db_var (i := 0)) dab_nil))) da_nil)))))) (DE.db (de_bin o_mulI (DE.db de_int) (db_var (i := 2))))) sc_law_sure.nd) (dss_cons (ds_ret (de_if (dt_cmp (o_le hr.units) (db_var (i := 3)) (db_var (i := 0))) (de_var (i := 3)) de_non)) dss_nil))
theorem sc_law_is_small_right : FnScope ["deck", "floor", "rings", "n", "k", "e", "sure", "lot", "less"] ["deck"] (defScope (top 61)) := ⟨rfl, rfl, rfl, by decide +kernel, rfl, by decide +kernel, by decide +kernel⟩
theorem ok_law_is_small_right {f : Addr} {fd : FuncData} (F : Fun K "_law_is_small_right" "_law_is_small_right" (top 61) f fd) (T : Txt K mg) (H__law_draw : Has P w K mg base "_law_draw" 1 ["deck", "below"] E.draw) (H__law_floor : Has P w K mg base "_law_floor" 3 ["rings"] f_law_floor) (H__law_lots_of : Has P w K mg base "_law_lots_of" 1 ["some", "many"] f_law_lots_of) (H__law_pick : Has P w K mg base "_law_pick" 2 ["deck", "some"] (f_law_pick E)) (H__law_some_of : Has P w K mg base "_law_some_of" 3 ["deck", "some", "many"] (f_law_some_of E)) (H__law_sure : Has P w K mg base "_law_sure" 2 ["n", "k", "e"] f_law_sure) (H__law_tells : Has P w K mg base "_law_tells" 3 ["floor", "labels", "k", "e"] f_law_tells) (H__law_tiny_floor : Has P w K mg base "_law_tiny_floor" 4 ["deck"] (f_law_tiny_floor E)) (H_does_tell : Has P w K mg base "does_tell" 7 ["rings", "labels", "k", "e"] f_does_tell) (H_sure_number : Has P w K mg base "sure_number" 5 ["rings", "k", "e"] f_sure_number) (HK_does_tell_0_e_k_labels_rings : HasK P w K mg base "does_tell" 7 ["rings", "labels", "k", "e"] 0 ["e", "k", "labels", "rings"] [3, 2, 1, 0] f_does_tell) : FnG P w K mg base 8 f fd ["deck"] (spOf K 1 (f_law_is_small_right E)) :=
  fn_okG (T := T_law_is_small_right E) F sc_law_is_small_right fun cdv A outer s H _ ex hgd hr => (dss_cons (ds_set (i := 1) (de_callH H__law_tiny_floor (hr.mono (by decide)) (da_cons (de_var (i := 0)) da_nil)) sc_law_is_small_right.nd) (dss_cons (ds_if (dt_cmp (o_gt hr.units) (DE.db (de_dget hr.units (db_var (i := 1)) (DE.db de_str))) (DE.db de_int)) (dss_cons (ds_set (i := 1) (de_callH H__law_floor (hr.mono (by decide)) (da_cons (de_callH H__law_pick (hr.mono (by decide)) (da_cons (de_var (i := 0)) (da_cons (DF.de (df_lst (da_cons (de_tup (da_cons de_int da_nil)) (da_cons (de_tup (da_cons de_int (da_cons de_int da_nil))) (da_cons (de_tup (da_cons de_int da_nil)) da_nil))))) da_nil))) da_nil)) sc_law_is_small_right.nd) dss_nil) dss_nil) (dss_cons (by first | exact ds_par2 (i := 2) (j := 3) (dp_val (i := 2) (de_dget hr.units (db_var (i := 1)) (DE.db de_str)) (dp_val (i := 3) (de_dget hr.units (db_var (i := 1)) (DE.db de_str)) dp_nil)) sc_law_is_small_right.nd (by decide) | exact ds_parT (dp_val (i := 2) (de_dget hr.units (db_var (i := 1)) (DE.db de_str)) (dp_val (i := 3) (de_dget hr.units (db_var (i := 1)) (DE.db de_str)) dp_nil)) (pg_tup rfl (pgs_cons (pg_name (i := 2) sc_law_is_small_right.nd rfl (by first | exact Or.inl rfl | exact Or.inr rfl)) (pgs_cons (pg_name (i := 3) sc_law_is_small_right.nd rfl (by first | exact Or.inl rfl | exact Or.inr rfl)) pgs_nil)))) (dss_cons (by first | exact ds_par2 (i := 4) (j := 5) (dp_val (i := 4) (de_bin o_add (DE.db de_int) (DE.db (de_callH H__law_draw (hr.mono (by decide)) (da_cons (de_var (i := 0)) (da_cons (de_if (dt_cmp (o_gt hr.units) (db_var (i := 3)) (DE.db de_int)) de_int de_int) da_nil))))) (dp_val (i := 5) (de_callH H__law_pick (hr.mono (by decide)) (da_cons (de_var (i := 0)) (da_cons (DF.de (df_lst (da_cons de_int (da_cons de_int (da_cons de_int da_nil))))) da_nil))) dp_nil)) sc_law_is_small_right.nd (by decide) | exact ds_parT (dp_val (i := 4) (de_bin o_add (DE.db de_int) (DE.db (de_callH H__law_draw (hr.mono (by decide)) (da_cons (de_var (i := 0)) (da_cons (de_if (dt_cmp (o_gt hr.units) (db_var (i := 3)) (DE.db de_int)) de_int de_int) da_nil))))) (dp_val (i := 5) (de_callH H__law_pick (hr.mono (by decide)) (da_cons (de_var (i := 0)) (da_cons (DF.de (df_lst (da_cons de_int (da_cons de_int (da_cons de_int da_nil))))) da_nil))) dp_nil)) (pg_tup rfl (pgs_cons (pg_name (i := 4) sc_law_is_small_right.nd rfl (by first | exact Or.inl rfl | exact Or.inr rfl)) (pgs_cons (pg_name (i := 5) sc_law_is_small_right.nd rfl (by first | exact Or.inl rfl | exact Or.inr rfl)) pgs_nil)))) (dss_cons (ds_set (i := 6) (de_callH H_sure_number (hr.mono (by decide)) (da_cons (de_var (i := 2)) (da_cons (de_var (i := 4)) (da_cons (de_var (i := 5)) da_nil)))) sc_law_is_small_right.nd) (dss_cons (ds_if (dt_cmp (o_ne hr.units) (DE.db (de_fnB (f_repr hgd hr) T.z_repr bt_repr (dab_cons (db_var (i := 6)) dab_nil))) (DE.db (de_fnB (f_repr hgd hr) T.z_repr bt_repr (dab_cons (DE.db (de_callH H__law_sure (hr.mono (by decide)) (da_cons (de_var (i := 3)) (da_cons (de_var (i := 4)) (da_cons (de_var (i := 5)) da_nil))))) dab_nil)))) (dss_cons (ds_ret de_bl) dss_nil) dss_nil) (dss_cons (ds_if (dt_cmp o_isN (db_var (i := 6)) (DE.db de_non)) (dss_cons (ds_ret (de_cmp o_isB (DE.db (de_callH H_does_tell (hr.mono (by decide)) (da_cons (de_var (i := 2)) (da_cons (de_fnT (f_tuple) T.z_tuple bt_tuple (dab_cons (DE.db (de_dget hr.units (db_var (i := 1)) (DE.db de_str))) dab_nil)) (da_cons (de_var (i := 4)) (da_cons (de_var (i := 5)) da_nil)))))) (DE.db de_bl))) dss_nil) dss_nil) (dss_cons (ds_set (i := 7) (de_fnT (f_tuple) T.z_tuple bt_tuple (dab_cons (DE.db (de_callH H__law_some_of (hr.mono (by decide)) (da_cons (de_var (i := 0)) (da_cons (de_dget hr.units (db_var (i := 1)) (DE.db de_str)) (da_cons (de_var (i := 6)) da_nil))))) dab_nil)) sc_law_is_small_right.nd) (dss_cons (ds_if (dt_cmp o_isNotB (DE.db (de_callH H_does_tell (hr.mono (by decide)) (da_cons (de_var (i := 2)) (da_cons (de_var (i := 7)) (da_cons (de_var (i := 4)) (da_cons (de_var (i := 5)) da_nil)))))) (DE.db de_bl)) (dss_cons (ds_ret de_bl) dss_nil) dss_nil) (dss_cons (ds_for (p := (.nm 8)) (di_of (de_callH H__law_lots_of (hr.mono (by decide)) (da_cons (de_dget hr.units (db_var (i := 1)) (DE.db de_str)) (da_cons (de_bin o_sub (db_var (i := 6)) (DE.db de_int)) da_nil)))) (pg_name (i := 8) sc_law_is_small_right.nd rfl (by first | exact Or.inl rfl | exact Or.inr rfl)) (dss_cons (ds_if (dt_not (dt_truth (DE.db (de_callH H__law_tells (hr.mono (by decide)) (da_cons (de_var (i := 1)) (da_cons (de_var (i := 8)) (da_cons (de_var (i := 4)) (da_cons (de_var (i := 5)) da_nil)))))))) (dss_cons (ds_ret (de_cmp o_isB (DE.db (de_callK0 HK_does_tell_0_e_k_labels_rings (hr.mono (by decide)) (dk_cons (de_var (i := 5)) (dk_cons (de_var (i := 4)) (dk_cons (de_var (i := 8)) (dk_cons (de_var (i := 2)) dk_nil)))))) (DE.db de_bl))) dss_nil) dss_nil) dss_nil)) (dss_cons (ds_ret de_bl) dss_nil)))))))))))
theorem sc_law : FnScope ["script", "deck", "go", "rings", "n", "length", "k", "e", "told"] ["script"] (defScope (top 62)) := ⟨rfl, rfl, rfl, by decide +kernel, rfl, by decide +kernel, by decide +kernel⟩
theorem ok_law {f : Addr} {fd : FuncData} (F : Fun K "law" "law" (top 62) f fd) (T : Txt K mg) (H__law_deck : Has P w K mg base "_law_deck" 1 ["script"] E.deck) (H__law_draw : Has P w K mg base "_law_draw" 1 ["deck", "below"] E.draw) (H__law_is_small_right : HasG P w K mg base "_law_is_small_right" 8 ["deck"] (f_law_is_small_right E)) (H__law_pick : Has P w K mg base "_law_pick" 2 ["deck", "some"] (f_law_pick E)) (H__law_sure : Has P w K mg base "_law_sure" 2 ["n", "k", "e"] f_law_sure) (H_sure_number : Has P w K mg base "sure_number" 5 ["rings", "k", "e"] f_sure_number) (HK_sure_number_0_e_k_rings : HasK P w K mg base "sure_number" 5 ["rings", "k", "e"] 0 ["e", "k", "rings"] [2, 1, 0] f_sure_number) : FnG P w K mg base 9 f fd ["script"] (spOf K 1 (f_law E)) :=
  fn_okG (T := T_law E) F sc_law fun cdv A outer s H _ ex hgd hr => (dss_cons (ds_set (i := 1) (de_callH H__law_deck (hr.mono (by decide)) (da_cons (de_var (i := 0)) da_nil)) sc_law.nd) (dss_cons (ds_for (p := (.nm 2)) (di_range1 de_int T.z_range) (pg_name (i := 2) sc_law.nd rfl (by first | exact Or.inl rfl | exact Or.inr rfl)) (dss_cons (ds_set (i := 3) (de_callH H__law_pick (hr.mono (by decide)) (da_cons (de_var (i := 1)) (da_cons (DF.de (df_lst (da_cons (de_tup (da_cons de_int da_nil)) (da_cons (de_tup (da_cons de_int da_nil)) (da_cons (de_tup (da_cons de_int (da_cons de_int da_nil))) (da_cons (de_tup (da_cons de_int da_nil)) (da_cons (de_tup (da_cons de_int da_nil)) (da_cons (de_tup (da_cons de_int (da_cons de_int da_nil))) (da_cons (de_tup (da_cons de_int (da_cons de_int da_nil))) (da_cons (de_tup (da_cons de_int da_nil)) (da_cons (de_tup (da_cons de_int da_nil)) (da_cons (de_tup (da_cons de_int (da_cons de_int da_nil))) (da_cons (de_tup (da_cons de_int (da_cons de_int (da_cons de_int da_nil)))) (da_cons (de_tup (da_cons de_int da_nil)) (da_cons (de_tup (da_cons de_int da_nil)) (da_cons (de_tup (da_cons de_int da_nil)) da_nil)))))))))))))))) da_nil))) sc_law.nd) (dss_cons (ds_set (i := 4) de_int sc_law.nd) (dss_cons (ds_for (p := (.nm 5)) (di_of (de_var (i := 3))) (pg_name (i := 5) sc_law.nd rfl (by first | exact Or.inl rfl | exact Or.inr rfl)) (dss_cons (ds_set (i := 4) (de_bin o_mulI (db_var (i := 4)) (db_var (i := 5))) sc_law.nd) dss_nil)) (dss_cons (by first | exact ds_par2 (i := 6) (j := 7) (dp_val (i := 6) (de_bin o_add (DE.db de_int) (DE.db (de_callH H__law_draw (hr.mono (by decide)) (da_cons (de_var (i := 1)) (da_cons (de_var (i := 4)) da_nil))))) (dp_val (i := 7) (de_callH H__law_pick (hr.mono (by decide)) (da_cons (de_var (i := 1)) (da_cons (DF.de (df_lst (da_cons de_int (da_cons de_int (da_cons de_int (da_cons de_int (da_cons (de_var (i := 4)) (da_cons (de_bin o_pow (DE.db de_int) (DE.db de_int)) da_nil)))))))) da_nil))) dp_nil)) sc_law.nd (by decide) | exact ds_parT (dp_val (i := 6) (de_bin o_add (DE.db de_int) (DE.db (de_callH H__law_draw (hr.mono (by decide)) (da_cons (de_var (i := 1)) (da_cons (de_var (i := 4)) da_nil))))) (dp_val (i := 7) (de_callH H__law_pick (hr.mono (by decide)) (da_cons (de_var (i := 1)) (da_cons (DF.de (df_lst (da_cons de_int (da_cons de_int (da_cons de_int (da_cons de_int (da_cons (de_var (i := 4)) (da_cons (de_bin o_pow (DE.db de_int) (DE.db de_int)) da_nil)))))))) da_nil))) dp_nil)) (pg_tup rfl (pgs_cons (pg_name (i := 6) sc_law.nd rfl (by first | exact Or.inl rfl | exact Or.inr rfl)) (pgs_cons (pg_name (i := 7) sc_law.nd rfl (by first | exact Or.inl rfl | exact Or.inr rfl)) pgs_nil)))) (dss_cons (ds_set (i := 6) (de_if (dt_cmp (o_eq hr.units) (DE.db (de_callH H__law_draw (hr.mono (by decide)) (da_cons (de_var (i := 1)) (da_cons de_int da_nil)))) (DE.db de_int)) (de_fnB (f_min2 rfl) T.z_min bt_min (dab_cons (db_var (i := 6)) (dab_cons (DE.db (de_bin o_add (DE.db de_int) (DE.db (de_callH H__law_draw (hr.mono (by decide)) (da_cons (de_var (i := 1)) (da_cons de_int da_nil)))))) dab_nil))) (de_var (i := 6))) sc_law.nd) (dss_cons (ds_set (i := 8) (DF.de (df_lst (da_cons (de_callH H_sure_number (hr.mono (by decide)) (da_cons (de_var (i := 3)) (da_cons (de_var (i := 6)) (da_cons (de_var (i := 7)) da_nil)))) (da_cons (de_callK0 HK_sure_number_0_e_k_rings (hr.mono (by decide)) (dk_cons (de_var (i := 7)) (dk_cons (de_var (i := 6)) (dk_cons (de_var (i := 3)) dk_nil)))) (da_cons (de_callH H_sure_number (hr.mono (by decide)) (da_cons (de_revT (db_var (i := 3))) (da_cons (de_var (i := 6)) (da_cons (de_var (i := 7)) da_nil)))) da_nil))))) sc_law.nd) (dss_cons (ds_if (dt_cmp (o_ne hr.units) (DE.db (de_fnB (f_repr hgd hr) T.z_repr bt_repr (dab_cons (db_var (i := 8)) dab_nil))) (DE.db (de_fnB (f_repr hgd hr) T.z_repr bt_repr (dab_cons (DE.db (DF.de (df_bin o_rep (DE.db (DF.de (df_lst (da_cons (de_callH H__law_sure (hr.mono (by decide)) (da_cons (de_var (i := 4)) (da_cons (de_var (i := 6)) (da_cons (de_var (i := 7)) da_nil)))) da_nil)))) (DE.db de_int)))) dab_nil)))) (dss_cons (ds_ret de_bl) dss_nil) dss_nil) dss_nil)))))))) (dss_cons (ds_ret (de_callG H__law_is_small_right hgd (hr.mono (by decide)) (da_cons (de_var (i := 1)) da_nil))) dss_nil)))
theorem sc_law_draw : FnScope ["deck", "below", "figure", "cell"] ["deck", "below"] (defScope (top 44)) := ⟨rfl, rfl, rfl, by decide +kernel, rfl, by decide +kernel, by decide +kernel⟩
theorem sc_law_deck : FnScope ["script", "mixed", "cell"] ["script"] (defScope (top 43)) := ⟨rfl, rfl, rfl, by decide +kernel, rfl, by decide +kernel, by decide +kernel⟩
/-- what is known of the draws -/
def E0 : Ext Hp := ⟨deckSpec "cells" "mixed" "turn", drawSpec "cells" "mixed" "turn"⟩
theorem ok_law_draw {f : Addr} {fd : FuncData} (F : Fun K "_law_draw" "_law_draw" (top 44) f fd) (T : Txt K mg) : FnOk P w K mg base CX0 1 f fd ["deck", "below"] (spOf K 2 E0.draw) :=
  (fn_ok (T := (T_drawG "cells" "mixed" "turn" 72551 2147483353 40014 59 2147483629 35853 59 2147483543 69621 2147483563)) F sc_law_draw fun cdv A outer s H _ ex hr => (dss_cons (ds_kPut (i := 0) hr.units (de_bin o_add (DE.db (de_kI (i := 0) hr.units)) (DE.db de_int))) (dss_cons (ds_set (i := 2) (de_bin o_add (DE.db (de_kI (i := 0) hr.units)) (DE.db (de_bin o_mulI (DE.db de_int) (DE.db (de_kI (i := 0) hr.units))))) sc_law_draw.nd) (dss_cons (ds_if (dt_kNe (i := 0) hr.units) (dss_cons (ds_kPop (j := 3) (i := 0) hr.units sc_law_draw.nd) (dss_cons (ds_if (dt_cmp (o_ge hr.units) (db_var (i := 3)) (DE.db (de_bin o_pow (DE.db de_int) (DE.db de_int)))) (dss_cons (ds_kApp (i := 0) hr.units (de_bin o_div (db_var (i := 3)) (DE.db (de_fnB (f_max2 rfl) T.z_max bt_max (dab_cons (DE.db de_int) (dab_cons (db_var (i := 1)) dab_nil)))))) (dss_cons (ds_ret (de_bin o_mod (DE.db (de_fnT (f_int) T.z_int bt_int (dab_cons (db_var (i := 3)) dab_nil))) (db_var (i := 1)))) dss_nil)) dss_nil) (dss_cons (ds_set (i := 2) (de_bin o_add (db_var (i := 2)) (DE.db (de_bin o_mod (DE.db (de_fnT (f_int) T.z_int bt_int (dab_cons (db_var (i := 3)) dab_nil))) (DE.db de_int)))) sc_law_draw.nd) dss_nil))) dss_nil) (dss_cons (ds_set (i := 2) (de_bin o_mod (DE.db (de_fnT (f_int) T.z_int bt_int (dab_cons (DE.db (de_bin o_add (DE.db (de_bin o_mulI (db_var (i := 2)) (DE.db de_int))) (DE.db de_int))) dab_nil))) (DE.db de_int)) sc_law_draw.nd) (dss_cons (ds_set (i := 2) (de_bin o_mod (DE.db (de_fnT (f_int) T.z_int bt_int (dab_cons (DE.db (de_bin o_add (DE.db (de_bin o_add (DE.db (de_bin o_mulI (db_var (i := 2)) (db_var (i := 2)))) (DE.db (de_bin o_mulI (DE.db de_int) (DE.db (de_kI (i := 0) hr.units)))))) (DE.db de_int))) dab_nil))) (DE.db de_int)) sc_law_draw.nd) (dss_cons (ds_set (i := 2) (de_bin o_mod (DE.db (de_fnT (f_int) T.z_int bt_int (dab_cons (DE.db (de_bin o_mulI (db_var (i := 2)) (DE.db de_int))) dab_nil))) (DE.db de_int)) sc_law_draw.nd) (dss_cons (ds_ret (de_bin o_mod (DE.db (de_fnT (f_int) T.z_int bt_int (dab_cons (DE.db (de_bin o_div (db_var (i := 2)) (DE.db de_int))) dab_nil))) (db_var (i := 1)))) dss_nil)))))))).imp fun vs H Q E ⟨hl, F, S, ds, k, ex, ok, r, t, kk⟩ => ⟨hl, F, S, ds, k, ex, ok, r, draw_ok (by decide) (by decide) (by decide) t, kk⟩
theorem ok_law_deck {f : Addr} {fd : FuncData} (F : Fun K "_law_deck" "_law_deck" (top 43) f fd) (T : Txt K mg) : FnOk P w K mg base CX0 1 f fd ["script"] (spOf K 1 E0.deck) :=
  (fn_ok (T := (T_deckG "cells" "mixed" "turn" 13734589 69621 2147483353 59 2147483543 cellsA)) F sc_law_deck fun cdv A outer s H _ ex hr => (dss_cons (ds_set (i := 1) de_int sc_law_deck.nd) (dss_cons (ds_for (p := (.nm 2)) (di_of (DF.de (df_slL (db_var (i := 0)) do_none (do_some (DE.db de_int))))) (pg_name (i := 2) sc_law_deck.nd rfl (by first | exact Or.inl rfl | exact Or.inr rfl)) (dss_cons (ds_set (i := 1) (de_bin o_mod (DE.db (de_fnT (f_int) T.z_int bt_int (dab_cons (DE.db (de_bin o_add (DE.db (de_bin o_add (DE.db (de_bin o_mulI (db_var (i := 1)) (DE.db de_int))) (DE.db (de_bin o_mod (DE.db (de_fnT (f_int) T.z_int bt_int (dab_cons (db_var (i := 2)) dab_nil))) (DE.db de_int))))) (DE.db de_int))) dab_nil))) (DE.db de_int)) sc_law_deck.nd) dss_nil)) (dss_cons (ds_ret (de_kDeck (df_rev (DE.db (DF.de (df_lc (own := [("cell", 2)]) (p := (.nm 2)) (di_of (DF.de (df_slL (db_var (i := 0)) do_none (do_some (DE.db de_int))))) (blkOk_by (N := ["script", "mixed", "cell"]) (sc := defScope (top 43)) (by decide +kernel)) sc_law_deck.nd (fun _ _ _ _ _ => (pg_name (i := 2) sc_law_deck.nd rfl (by first | exact Or.inl rfl | exact Or.inr rfl))) (fun _ _ _ _ _ => dts_nil) (fun _ _ _ _ _ => (de_fnT (f_int) T.z_int bt_int (dab_cons (db_var (i := 2)) dab_nil))))))) (de_var (i := 1)) de_int)) dss_nil)))).imp fun vs H Q E ⟨hl, F, S, ds, k, ex, ok, r, t, kk⟩ => ⟨hl, F, S, ds, k, ex, ok, r, deck_ok cellsA_ok (by decide) (by decide) (by decide) (by decide) t, kk⟩
/-- a def as the top has written it -/
def DefOk (K : PySem.W.Frag) (mg : PySem.Str → Option Value) (x : PySem.Str) (st : Stmt) : Prop := ∃ (f : Addr) (fd : FuncData), mg x = some (.ref f) ∧ Fun K x x st f fd
def DefOkD (K : PySem.W.Frag) (mg : PySem.Str → Option Value) (x : PySem.Str) (st : Stmt) (dvs : List V) : Prop := ∃ (f : Addr) (fd : FuncData), mg x = some (.ref f) ∧ FunD K x x (defArgs st) (defBody st) (defScope st) dvs [] f fd
theorem all_ok (T : Txt K mg) (D__law_deck : DefOk K mg "_law_deck" (top 43)) (D__law_draw : DefOk K mg "_law_draw" (top 44)) (D_primes_of : DefOk K mg "primes_of" (top 8)) (D_is_integer : DefOk K mg "is_integer" (top 9)) (D_are_integers : DefOk K mg "are_integers" (top 10)) (D_size : DefOk K mg "size" (top 20)) (D_are_rings_value : DefOk K mg "are_rings_value" (top 14)) (D_is_place_value : DefOk K mg "is_place_value" (top 15)) (D_is_lot_value : DefOk K mg "is_lot_value" (top 16)) (D_need_rings : DefOk K mg "need_rings" (top 17)) (D_need_lot : DefOk K mg "need_lot" (top 18)) (D_need_count : DefOkD K mg "need_count" (top 19) [V.non]) (D_order : DefOk K mg "order" (top 21)) (D_places_of : DefOk K mg "places_of" (top 22)) (D_pair_of : DefOk K mg "pair_of" (top 23)) (D_choices_for : DefOk K mg "choices_for" (top 25)) (D_least_voices : DefOk K mg "least_voices" (top 26)) (D_turn_remainders : DefOk K mg "turn_remainders" (top 31)) (D_rank_by_remainders : DefOk K mg "rank_by_remainders" (top 32)) (D_first_gap : DefOk K mg "first_gap" (top 33)) (D_places_asked : DefOk K mg "places_asked" (top 34)) (D_are_telling : DefOk K mg "are_telling" (top 35)) (D_sure_many : DefOk K mg "sure_many" (top 36)) (D_need_counts : DefOk K mg "need_counts" (top 38)) (D_need_telling : DefOk K mg "need_telling" (top 39)) (D_does_tell : DefOk K mg "does_tell" (top 40)) (D_sure_number : DefOk K mg "sure_number" (top 41)) (D__law_pick : DefOk K mg "_law_pick" (top 45)) (D__law_common : DefOk K mg "_law_common" (top 46)) (D__law_shuffled : DefOk K mg "_law_shuffled" (top 47)) (D__law_some_of : DefOk K mg "_law_some_of" (top 48)) (D__law_divided : DefOk K mg "_law_divided" (top 50)) (D__law_ring_polynomial : DefOk K mg "_law_ring_polynomial" (top 49)) (D__law_floor : DefOk K mg "_law_floor" (top 51)) (D__law_pairing : DefOk K mg "_law_pairing" (top 52)) (D__law_root : DefOk K mg "_law_root" (top 53)) (D__law_lines : DefOk K mg "_law_lines" (top 54)) (D__law_rank : DefOk K mg "_law_rank" (top 55)) (D__law_least : DefOk K mg "_law_least" (top 56)) (D__law_lots_of : DefOk K mg "_law_lots_of" (top 57)) (D__law_tells : DefOk K mg "_law_tells" (top 58)) (D__law_tiny_floor : DefOk K mg "_law_tiny_floor" (top 59)) (D__law_sure : DefOk K mg "_law_sure" (top 60)) (D__law_is_small_right : DefOk K mg "_law_is_small_right" (top 61)) (D_law : DefOk K mg "law" (top 62)) : ∃ (fa : Addr) (fd : FuncData), mg "law" = some (.ref fa) ∧ Fun K "law" "law" (top 62) fa fd ∧ FnG P w K mg base 9 fa fd ["script"] (spOf K 1 (f_law E0)) := by
  obtain ⟨a__law_deck, fd__law_deck, m__law_deck, F__law_deck⟩ := D__law_deck
  have G__law_deck := (ok_law_deck F__law_deck T : FnOk P w K mg base CX0 1 a__law_deck fd__law_deck ["script"] (spOf K 1 E0.deck))
  have H__law_deck : Has P w K mg base "_law_deck" 1 ["script"] E0.deck := ⟨a__law_deck, fd__law_deck, G__law_deck, m__law_deck, F__law_deck.kp, F__law_deck.binds (ps := ["script"]) fun _ _ _ _ _ _ us hl => match us, hl with | [_], _ => rfl⟩
  obtain ⟨a__law_draw, fd__law_draw, m__law_draw, F__law_draw⟩ := D__law_draw
  have G__law_draw := (ok_law_draw F__law_draw T : FnOk P w K mg base CX0 1 a__law_draw fd__law_draw ["deck", "below"] (spOf K 2 E0.draw))
  have H__law_draw : Has P w K mg base "_law_draw" 1 ["deck", "below"] E0.draw := ⟨a__law_draw, fd__law_draw, G__law_draw, m__law_draw, F__law_draw.kp, F__law_draw.binds (ps := ["deck", "below"]) fun _ _ _ _ _ _ us hl => match us, hl with | [_, _], _ => rfl⟩
  obtain ⟨a_primes_of, fd_primes_of, m_primes_of, F_primes_of⟩ := D_primes_of
  have G_primes_of := (ok_primes_of F_primes_of T : FnOk P w K mg base CX0 1 a_primes_of fd_primes_of ["e"] (spOf K 1 f_primes_of))
  have H_primes_of : Has P w K mg base "primes_of" 1 ["e"] f_primes_of := ⟨a_primes_of, fd_primes_of, G_primes_of, m_primes_of, F_primes_of.kp, F_primes_of.binds (ps := ["e"]) fun _ _ _ _ _ _ us hl => match us, hl with | [_], _ => rfl⟩
  obtain ⟨a_is_integer, fd_is_integer, m_is_integer, F_is_integer⟩ := D_is_integer
  have G_is_integer := (ok_is_integer F_is_integer T : FnOk P w K mg base CX0 1 a_is_integer fd_is_integer ["thing"] (spOf K 1 f_is_integer))
  have H_is_integer : Has P w K mg base "is_integer" 1 ["thing"] f_is_integer := ⟨a_is_integer, fd_is_integer, G_is_integer, m_is_integer, F_is_integer.kp, F_is_integer.binds (ps := ["thing"]) fun _ _ _ _ _ _ us hl => match us, hl with | [_], _ => rfl⟩
  obtain ⟨a_are_integers, fd_are_integers, m_are_integers, F_are_integers⟩ := D_are_integers
  have G_are_integers := (ok_are_integers F_are_integers T H_is_integer : FnOk P w K mg base CX0 2 a_are_integers fd_are_integers ["thing"] (spOf K 1 f_are_integers))
  have H_are_integers : Has P w K mg base "are_integers" 2 ["thing"] f_are_integers := ⟨a_are_integers, fd_are_integers, G_are_integers, m_are_integers, F_are_integers.kp, F_are_integers.binds (ps := ["thing"]) fun _ _ _ _ _ _ us hl => match us, hl with | [_], _ => rfl⟩
  obtain ⟨a_size, fd_size, m_size, F_size⟩ := D_size
  have G_size := (ok_size F_size T : FnOk P w K mg base CX0 1 a_size fd_size ["rings"] (spOf K 1 f_size))
  have H_size : Has P w K mg base "size" 1 ["rings"] f_size := ⟨a_size, fd_size, G_size, m_size, F_size.kp, F_size.binds (ps := ["rings"]) fun _ _ _ _ _ _ us hl => match us, hl with | [_], _ => rfl⟩
  obtain ⟨a_are_rings_value, fd_are_rings_value, m_are_rings_value, F_are_rings_value⟩ := D_are_rings_value
  have G_are_rings_value := (ok_are_rings_value F_are_rings_value T H_are_integers H_size : FnOk P w K mg base CX0 3 a_are_rings_value fd_are_rings_value ["thing"] (spOf K 1 f_are_rings_value))
  have H_are_rings_value : Has P w K mg base "are_rings_value" 3 ["thing"] f_are_rings_value := ⟨a_are_rings_value, fd_are_rings_value, G_are_rings_value, m_are_rings_value, F_are_rings_value.kp, F_are_rings_value.binds (ps := ["thing"]) fun _ _ _ _ _ _ us hl => match us, hl with | [_], _ => rfl⟩
  obtain ⟨a_is_place_value, fd_is_place_value, m_is_place_value, F_is_place_value⟩ := D_is_place_value
  have G_is_place_value := (ok_is_place_value F_is_place_value T H_are_integers : FnOk P w K mg base CX0 3 a_is_place_value fd_is_place_value ["rings", "thing"] (spOf K 2 f_is_place_value))
  have H_is_place_value : Has P w K mg base "is_place_value" 3 ["rings", "thing"] f_is_place_value := ⟨a_is_place_value, fd_is_place_value, G_is_place_value, m_is_place_value, F_is_place_value.kp, F_is_place_value.binds (ps := ["rings", "thing"]) fun _ _ _ _ _ _ us hl => match us, hl with | [_, _], _ => rfl⟩
  obtain ⟨a_is_lot_value, fd_is_lot_value, m_is_lot_value, F_is_lot_value⟩ := D_is_lot_value
  have G_is_lot_value := (ok_is_lot_value F_is_lot_value T H_is_place_value : FnOk P w K mg base CX0 4 a_is_lot_value fd_is_lot_value ["rings", "thing"] (spOf K 2 f_is_lot_value))
  have H_is_lot_value : Has P w K mg base "is_lot_value" 4 ["rings", "thing"] f_is_lot_value := ⟨a_is_lot_value, fd_is_lot_value, G_is_lot_value, m_is_lot_value, F_is_lot_value.kp, F_is_lot_value.binds (ps := ["rings", "thing"]) fun _ _ _ _ _ _ us hl => match us, hl with | [_, _], _ => rfl⟩
  obtain ⟨a_need_rings, fd_need_rings, m_need_rings, F_need_rings⟩ := D_need_rings
  have G_need_rings := (ok_need_rings F_need_rings T H_are_rings_value : FnOk P w K mg base CX0 4 a_need_rings fd_need_rings ["rings"] (spOf K 1 f_need_rings))
  have H_need_rings : Has P w K mg base "need_rings" 4 ["rings"] f_need_rings := ⟨a_need_rings, fd_need_rings, G_need_rings, m_need_rings, F_need_rings.kp, F_need_rings.binds (ps := ["rings"]) fun _ _ _ _ _ _ us hl => match us, hl with | [_], _ => rfl⟩
  obtain ⟨a_need_lot, fd_need_lot, m_need_lot, F_need_lot⟩ := D_need_lot
  have G_need_lot := (ok_need_lot F_need_lot T H_is_lot_value : FnOk P w K mg base CX0 5 a_need_lot fd_need_lot ["rings", "places"] (spOf K 2 f_need_lot))
  have H_need_lot : Has P w K mg base "need_lot" 5 ["rings", "places"] f_need_lot := ⟨a_need_lot, fd_need_lot, G_need_lot, m_need_lot, F_need_lot.kp, F_need_lot.binds (ps := ["rings", "places"]) fun _ _ _ _ _ _ us hl => match us, hl with | [_, _], _ => rfl⟩
  obtain ⟨a_need_count, fd_need_count, m_need_count, F_need_count⟩ := D_need_count
  have G_need_count := (ok_need_count F_need_count T H_is_integer : FnOk P w K mg base CX0 2 a_need_count fd_need_count ["thing", "least", "most"] (spOf K 3 f_need_count))
  have H_need_count : Has P w K mg base "need_count" 2 ["thing", "least", "most"] f_need_count := by
    obtain ⟨ds, h1, h2⟩ := F_need_count.binds1 (ps := ["thing", "least", "most"]) 3 1 (by simp) (by rfl) (fun _ _ _ _ _ _ _ us its l1 l2 => match us, its, l1, l2 with | [_, _, _], [_], _, _ => ⟨_, rfl, rfl⟩)
    cases h1
    exact ⟨a_need_count, fd_need_count, G_need_count, m_need_count, F_need_count.kp, h2⟩
  have HD_need_count_1 : HasD P w K mg base "need_count" 2 ["thing", "least", "most"] [.non] f_need_count := by
    obtain ⟨ds, h1, h2⟩ := F_need_count.binds1 (ps := ["thing", "least", "most"]) 2 0 (by simp) (by rfl) (fun _ _ _ _ _ _ _ us its l1 l2 => match us, its, l1, l2 with | [_, _], [_], _, _ => ⟨_, rfl, rfl⟩)
    exact ⟨a_need_count, fd_need_count, _, ds, G_need_count, m_need_count, F_need_count.kp, h2, h1, fun F => by constructor <;> constructor⟩
  obtain ⟨a_order, fd_order, m_order, F_order⟩ := D_order
  have G_order := (ok_order F_order T : FnOk P w K mg base CX0 1 a_order fd_order ["rings"] (spOf K 1 f_order))
  have H_order : Has P w K mg base "order" 1 ["rings"] f_order := ⟨a_order, fd_order, G_order, m_order, F_order.kp, F_order.binds (ps := ["rings"]) fun _ _ _ _ _ _ us hl => match us, hl with | [_], _ => rfl⟩
  obtain ⟨a_places_of, fd_places_of, m_places_of, F_places_of⟩ := D_places_of
  have G_places_of := (ok_places_of F_places_of T : FnOk P w K mg base CX0 1 a_places_of fd_places_of ["rings"] (spOf K 1 f_places_of))
  have H_places_of : Has P w K mg base "places_of" 1 ["rings"] f_places_of := ⟨a_places_of, fd_places_of, G_places_of, m_places_of, F_places_of.kp, F_places_of.binds (ps := ["rings"]) fun _ _ _ _ _ _ us hl => match us, hl with | [_], _ => rfl⟩
  obtain ⟨a_pair_of, fd_pair_of, m_pair_of, F_pair_of⟩ := D_pair_of
  have G_pair_of := (ok_pair_of F_pair_of T H_order : FnOk P w K mg base CX0 2 a_pair_of fd_pair_of ["rings", "x", "k"] (spOf K 3 f_pair_of))
  have H_pair_of : Has P w K mg base "pair_of" 2 ["rings", "x", "k"] f_pair_of := ⟨a_pair_of, fd_pair_of, G_pair_of, m_pair_of, F_pair_of.kp, F_pair_of.binds (ps := ["rings", "x", "k"]) fun _ _ _ _ _ _ us hl => match us, hl with | [_, _, _], _ => rfl⟩
  obtain ⟨a_choices_for, fd_choices_for, m_choices_for, F_choices_for⟩ := D_choices_for
  have G_choices_for := (ok_choices_for F_choices_for T H_primes_of : FnOk P w K mg base CX0 2 a_choices_for fd_choices_for ["n", "k"] (spOf K 2 f_choices_for))
  have H_choices_for : Has P w K mg base "choices_for" 2 ["n", "k"] f_choices_for := ⟨a_choices_for, fd_choices_for, G_choices_for, m_choices_for, F_choices_for.kp, F_choices_for.binds (ps := ["n", "k"]) fun _ _ _ _ _ _ us hl => match us, hl with | [_, _], _ => rfl⟩
  obtain ⟨a_least_voices, fd_least_voices, m_least_voices, F_least_voices⟩ := D_least_voices
  have G_least_voices := (ok_least_voices F_least_voices T H_choices_for : FnOk P w K mg base CX0 3 a_least_voices fd_least_voices ["n", "k"] (spOf K 2 f_least_voices))
  have H_least_voices : Has P w K mg base "least_voices" 3 ["n", "k"] f_least_voices := ⟨a_least_voices, fd_least_voices, G_least_voices, m_least_voices, F_least_voices.kp, F_least_voices.binds (ps := ["n", "k"]) fun _ _ _ _ _ _ us hl => match us, hl with | [_, _], _ => rfl⟩
  obtain ⟨a_turn_remainders, fd_turn_remainders, m_turn_remainders, F_turn_remainders⟩ := D_turn_remainders
  have G_turn_remainders := (ok_turn_remainders F_turn_remainders T : FnOk P w K mg base CX0 1 a_turn_remainders fd_turn_remainders ["e"] (spOf K 1 f_turn_remainders))
  have H_turn_remainders : Has P w K mg base "turn_remainders" 1 ["e"] f_turn_remainders := ⟨a_turn_remainders, fd_turn_remainders, G_turn_remainders, m_turn_remainders, F_turn_remainders.kp, F_turn_remainders.binds (ps := ["e"]) fun _ _ _ _ _ _ us hl => match us, hl with | [_], _ => rfl⟩
  obtain ⟨a_rank_by_remainders, fd_rank_by_remainders, m_rank_by_remainders, F_rank_by_remainders⟩ := D_rank_by_remainders
  have G_rank_by_remainders := (ok_rank_by_remainders F_rank_by_remainders T : FnOk P w K mg base CX0 1 a_rank_by_remainders fd_rank_by_remainders ["rows"] (spOf K 1 f_rank_by_remainders))
  have H_rank_by_remainders : Has P w K mg base "rank_by_remainders" 1 ["rows"] f_rank_by_remainders := ⟨a_rank_by_remainders, fd_rank_by_remainders, G_rank_by_remainders, m_rank_by_remainders, F_rank_by_remainders.kp, F_rank_by_remainders.binds (ps := ["rows"]) fun _ _ _ _ _ _ us hl => match us, hl with | [_], _ => rfl⟩
  obtain ⟨a_first_gap, fd_first_gap, m_first_gap, F_first_gap⟩ := D_first_gap
  have G_first_gap := (ok_first_gap F_first_gap T H_order H_pair_of H_places_of H_rank_by_remainders H_turn_remainders : FnOk P w K mg base CX0 3 a_first_gap fd_first_gap ["rings", "labels", "many", "need"] (spOf K 4 f_first_gap))
  have H_first_gap : Has P w K mg base "first_gap" 3 ["rings", "labels", "many", "need"] f_first_gap := ⟨a_first_gap, fd_first_gap, G_first_gap, m_first_gap, F_first_gap.kp, F_first_gap.binds (ps := ["rings", "labels", "many", "need"]) fun _ _ _ _ _ _ us hl => match us, hl with | [_, _, _, _], _ => rfl⟩
  obtain ⟨a_places_asked, fd_places_asked, m_places_asked, F_places_asked⟩ := D_places_asked
  have G_places_asked := (ok_places_asked F_places_asked T H_size : FnOk P w K mg base CX0 2 a_places_asked fd_places_asked ["rings", "k"] (spOf K 2 f_places_asked))
  have H_places_asked : Has P w K mg base "places_asked" 2 ["rings", "k"] f_places_asked := ⟨a_places_asked, fd_places_asked, G_places_asked, m_places_asked, F_places_asked.kp, F_places_asked.binds (ps := ["rings", "k"]) fun _ _ _ _ _ _ us hl => match us, hl with | [_, _], _ => rfl⟩
  obtain ⟨a_are_telling, fd_are_telling, m_are_telling, F_are_telling⟩ := D_are_telling
  have G_are_telling := (ok_are_telling F_are_telling T H_first_gap H_places_asked : FnOk P w K mg base CX0 4 a_are_telling fd_are_telling ["rings", "labels", "k", "e"] (spOf K 4 f_are_telling))
  have H_are_telling : Has P w K mg base "are_telling" 4 ["rings", "labels", "k", "e"] f_are_telling := ⟨a_are_telling, fd_are_telling, G_are_telling, m_are_telling, F_are_telling.kp, F_are_telling.binds (ps := ["rings", "labels", "k", "e"]) fun _ _ _ _ _ _ us hl => match us, hl with | [_, _, _, _], _ => rfl⟩
  obtain ⟨a_sure_many, fd_sure_many, m_sure_many, F_sure_many⟩ := D_sure_many
  have G_sure_many := (ok_sure_many F_sure_many T H_least_voices : FnOk P w K mg base CX0 4 a_sure_many fd_sure_many ["n", "k", "e"] (spOf K 3 f_sure_many))
  have H_sure_many : Has P w K mg base "sure_many" 4 ["n", "k", "e"] f_sure_many := ⟨a_sure_many, fd_sure_many, G_sure_many, m_sure_many, F_sure_many.kp, F_sure_many.binds (ps := ["n", "k", "e"]) fun _ _ _ _ _ _ us hl => match us, hl with | [_, _, _], _ => rfl⟩
  obtain ⟨a_need_counts, fd_need_counts, m_need_counts, F_need_counts⟩ := D_need_counts
  have G_need_counts := (ok_need_counts F_need_counts T H_need_count H_size HD_need_count_1 : FnOk P w K mg base CX0 3 a_need_counts fd_need_counts ["rings", "k", "e"] (spOf K 3 f_need_counts))
  have H_need_counts : Has P w K mg base "need_counts" 3 ["rings", "k", "e"] f_need_counts := ⟨a_need_counts, fd_need_counts, G_need_counts, m_need_counts, F_need_counts.kp, F_need_counts.binds (ps := ["rings", "k", "e"]) fun _ _ _ _ _ _ us hl => match us, hl with | [_, _, _], _ => rfl⟩
  obtain ⟨a_need_telling, fd_need_telling, m_need_telling, F_need_telling⟩ := D_need_telling
  have G_need_telling := (ok_need_telling F_need_telling T H_need_counts H_need_lot H_need_rings : FnOk P w K mg base CX0 6 a_need_telling fd_need_telling ["rings", "labels", "k", "e"] (spOf K 4 f_need_telling))
  have H_need_telling : Has P w K mg base "need_telling" 6 ["rings", "labels", "k", "e"] f_need_telling := ⟨a_need_telling, fd_need_telling, G_need_telling, m_need_telling, F_need_telling.kp, F_need_telling.binds (ps := ["rings", "labels", "k", "e"]) fun _ _ _ _ _ _ us hl => match us, hl with | [_, _, _, _], _ => rfl⟩
  obtain ⟨a_does_tell, fd_does_tell, m_does_tell, F_does_tell⟩ := D_does_tell
  have G_does_tell := (ok_does_tell F_does_tell T H_are_telling H_need_telling : FnOk P w K mg base CX0 7 a_does_tell fd_does_tell ["rings", "labels", "k", "e"] (spOf K 4 f_does_tell))
  have H_does_tell : Has P w K mg base "does_tell" 7 ["rings", "labels", "k", "e"] f_does_tell := ⟨a_does_tell, fd_does_tell, G_does_tell, m_does_tell, F_does_tell.kp, F_does_tell.binds (ps := ["rings", "labels", "k", "e"]) fun _ _ _ _ _ _ us hl => match us, hl with | [_, _, _, _], _ => rfl⟩
  have HK_does_tell_0_e_k_labels_rings : HasK P w K mg base "does_tell" 7 ["rings", "labels", "k", "e"] 0 ["e", "k", "labels", "rings"] [3, 2, 1, 0] f_does_tell := ⟨a_does_tell, fd_does_tell, G_does_tell, m_does_tell, F_does_tell.kp, kbn_of F_does_tell fun _ _ _ _ _ _ us ws l1 l2 => match us, ws, l1, l2 with | [], [_, _, _, _], _, _ => rfl⟩
  obtain ⟨a_sure_number, fd_sure_number, m_sure_number, F_sure_number⟩ := D_sure_number
  have G_sure_number := (ok_sure_number F_sure_number T H_need_counts H_need_rings H_size H_sure_many : FnOk P w K mg base CX0 5 a_sure_number fd_sure_number ["rings", "k", "e"] (spOf K 3 f_sure_number))
  have H_sure_number : Has P w K mg base "sure_number" 5 ["rings", "k", "e"] f_sure_number := ⟨a_sure_number, fd_sure_number, G_sure_number, m_sure_number, F_sure_number.kp, F_sure_number.binds (ps := ["rings", "k", "e"]) fun _ _ _ _ _ _ us hl => match us, hl with | [_, _, _], _ => rfl⟩
  have HK_sure_number_0_e_k_rings : HasK P w K mg base "sure_number" 5 ["rings", "k", "e"] 0 ["e", "k", "rings"] [2, 1, 0] f_sure_number := ⟨a_sure_number, fd_sure_number, G_sure_number, m_sure_number, F_sure_number.kp, kbn_of F_sure_number fun _ _ _ _ _ _ us ws l1 l2 => match us, ws, l1, l2 with | [], [_, _, _], _, _ => rfl⟩
  obtain ⟨a__law_pick, fd__law_pick, m__law_pick, F__law_pick⟩ := D__law_pick
  have G__law_pick := (ok_law_pick (E := E0) F__law_pick T H__law_draw : FnOk P w K mg base CX0 2 a__law_pick fd__law_pick ["deck", "some"] (spOf K 2 (f_law_pick E0)))
  have H__law_pick : Has P w K mg base "_law_pick" 2 ["deck", "some"] (f_law_pick E0) := ⟨a__law_pick, fd__law_pick, G__law_pick, m__law_pick, F__law_pick.kp, F__law_pick.binds (ps := ["deck", "some"]) fun _ _ _ _ _ _ us hl => match us, hl with | [_, _], _ => rfl⟩
  obtain ⟨a__law_common, fd__law_common, m__law_common, F__law_common⟩ := D__law_common
  have G__law_common := (ok_law_common F__law_common T : FnOk P w K mg base CX0 1 a__law_common fd__law_common ["one", "other"] (spOf K 2 f_law_common))
  have H__law_common : Has P w K mg base "_law_common" 1 ["one", "other"] f_law_common := ⟨a__law_common, fd__law_common, G__law_common, m__law_common, F__law_common.kp, F__law_common.binds (ps := ["one", "other"]) fun _ _ _ _ _ _ us hl => match us, hl with | [_, _], _ => rfl⟩
  obtain ⟨a__law_shuffled, fd__law_shuffled, m__law_shuffled, F__law_shuffled⟩ := D__law_shuffled
  have G__law_shuffled := (ok_law_shuffled (E := E0) F__law_shuffled T H__law_draw : FnOk P w K mg base CX0 2 a__law_shuffled fd__law_shuffled ["deck", "some"] (spOf K 2 (f_law_shuffled E0)))
  have H__law_shuffled : Has P w K mg base "_law_shuffled" 2 ["deck", "some"] (f_law_shuffled E0) := ⟨a__law_shuffled, fd__law_shuffled, G__law_shuffled, m__law_shuffled, F__law_shuffled.kp, F__law_shuffled.binds (ps := ["deck", "some"]) fun _ _ _ _ _ _ us hl => match us, hl with | [_, _], _ => rfl⟩
  obtain ⟨a__law_some_of, fd__law_some_of, m__law_some_of, F__law_some_of⟩ := D__law_some_of
  have G__law_some_of := (ok_law_some_of (E := E0) F__law_some_of T H__law_shuffled : FnOk P w K mg base CX0 3 a__law_some_of fd__law_some_of ["deck", "some", "many"] (spOf K 3 (f_law_some_of E0)))
  have H__law_some_of : Has P w K mg base "_law_some_of" 3 ["deck", "some", "many"] (f_law_some_of E0) := ⟨a__law_some_of, fd__law_some_of, G__law_some_of, m__law_some_of, F__law_some_of.kp, F__law_some_of.binds (ps := ["deck", "some", "many"]) fun _ _ _ _ _ _ us hl => match us, hl with | [_, _, _], _ => rfl⟩
  obtain ⟨a__law_divided, fd__law_divided, m__law_divided, F__law_divided⟩ := D__law_divided
  have G__law_divided := (ok_law_divided F__law_divided T : FnOk P w K mg base CX0 1 a__law_divided fd__law_divided ["line", "by"] (spOf K 2 f_law_divided))
  have H__law_divided : Has P w K mg base "_law_divided" 1 ["line", "by"] f_law_divided := ⟨a__law_divided, fd__law_divided, G__law_divided, m__law_divided, F__law_divided.kp, F__law_divided.binds (ps := ["line", "by"]) fun _ _ _ _ _ _ us hl => match us, hl with | [_, _], _ => rfl⟩
  obtain ⟨a__law_ring_polynomial, fd__law_ring_polynomial, m__law_ring_polynomial, F__law_ring_polynomial⟩ := D__law_ring_polynomial
  have G__law_ring_polynomial := (ok_law_ring_polynomial F__law_ring_polynomial T H__law_divided : FnOk P w K mg base CX0 2 a__law_ring_polynomial fd__law_ring_polynomial ["e"] (spOf K 1 f_law_ring_polynomial))
  have H__law_ring_polynomial : Has P w K mg base "_law_ring_polynomial" 2 ["e"] f_law_ring_polynomial := ⟨a__law_ring_polynomial, fd__law_ring_polynomial, G__law_ring_polynomial, m__law_ring_polynomial, F__law_ring_polynomial.kp, F__law_ring_polynomial.binds (ps := ["e"]) fun _ _ _ _ _ _ us hl => match us, hl with | [_], _ => rfl⟩
  obtain ⟨a__law_floor, fd__law_floor, m__law_floor, F__law_floor⟩ := D__law_floor
  have G__law_floor := (ok_law_floor F__law_floor T H__law_common H__law_ring_polynomial : FnOk P w K mg base CX0 3 a__law_floor fd__law_floor ["rings"] (spOf K 1 f_law_floor))
  have H__law_floor : Has P w K mg base "_law_floor" 3 ["rings"] f_law_floor := ⟨a__law_floor, fd__law_floor, G__law_floor, m__law_floor, F__law_floor.kp, F__law_floor.binds (ps := ["rings"]) fun _ _ _ _ _ _ us hl => match us, hl with | [_], _ => rfl⟩
  obtain ⟨a__law_pairing, fd__law_pairing, m__law_pairing, F__law_pairing⟩ := D__law_pairing
  have G__law_pairing := (ok_law_pairing F__law_pairing T : FnOk P w K mg base CX0 1 a__law_pairing fd__law_pairing ["floor", "place", "label"] (spOf K 3 f_law_pairing))
  have H__law_pairing : Has P w K mg base "_law_pairing" 1 ["floor", "place", "label"] f_law_pairing := ⟨a__law_pairing, fd__law_pairing, G__law_pairing, m__law_pairing, F__law_pairing.kp, F__law_pairing.binds (ps := ["floor", "place", "label"]) fun _ _ _ _ _ _ us hl => match us, hl with | [_, _, _], _ => rfl⟩
  obtain ⟨a__law_root, fd__law_root, m__law_root, F__law_root⟩ := D__law_root
  have G__law_root := (ok_law_root F__law_root T : FnOk P w K mg base CX0 1 a__law_root fd__law_root ["e"] (spOf K 1 f_law_root))
  have H__law_root : Has P w K mg base "_law_root" 1 ["e"] f_law_root := ⟨a__law_root, fd__law_root, G__law_root, m__law_root, F__law_root.kp, F__law_root.binds (ps := ["e"]) fun _ _ _ _ _ _ us hl => match us, hl with | [_], _ => rfl⟩
  obtain ⟨a__law_lines, fd__law_lines, m__law_lines, F__law_lines⟩ := D__law_lines
  have G__law_lines := (ok_law_lines F__law_lines T H__law_pairing H__law_root : FnOk P w K mg base CX0 2 a__law_lines fd__law_lines ["floor", "places", "labels"] (spOf K 3 f_law_lines))
  have H__law_lines : Has P w K mg base "_law_lines" 2 ["floor", "places", "labels"] f_law_lines := ⟨a__law_lines, fd__law_lines, G__law_lines, m__law_lines, F__law_lines.kp, F__law_lines.binds (ps := ["floor", "places", "labels"]) fun _ _ _ _ _ _ us hl => match us, hl with | [_, _, _], _ => rfl⟩
  obtain ⟨a__law_rank, fd__law_rank, m__law_rank, F__law_rank⟩ := D__law_rank
  have G__law_rank := (ok_law_rank F__law_rank T : FnOk P w K mg base CX0 1 a__law_rank fd__law_rank ["lines"] (spOf K 1 f_law_rank))
  have H__law_rank : Has P w K mg base "_law_rank" 1 ["lines"] f_law_rank := ⟨a__law_rank, fd__law_rank, G__law_rank, m__law_rank, F__law_rank.kp, F__law_rank.binds (ps := ["lines"]) fun _ _ _ _ _ _ us hl => match us, hl with | [_], _ => rfl⟩
  obtain ⟨a__law_least, fd__law_least, m__law_least, F__law_least⟩ := D__law_least
  have G__law_least := (ok_law_least F__law_least T : FnOk P w K mg base CX0 1 a__law_least fd__law_least ["n", "k"] (spOf K 2 f_law_least))
  have H__law_least : Has P w K mg base "_law_least" 1 ["n", "k"] f_law_least := ⟨a__law_least, fd__law_least, G__law_least, m__law_least, F__law_least.kp, F__law_least.binds (ps := ["n", "k"]) fun _ _ _ _ _ _ us hl => match us, hl with | [_, _], _ => rfl⟩
  obtain ⟨a__law_lots_of, fd__law_lots_of, m__law_lots_of, F__law_lots_of⟩ := D__law_lots_of
  have G__law_lots_of := (ok_law_lots_of F__law_lots_of T : FnOk P w K mg base CX0 1 a__law_lots_of fd__law_lots_of ["some", "many"] (spOf K 2 f_law_lots_of))
  have H__law_lots_of : Has P w K mg base "_law_lots_of" 1 ["some", "many"] f_law_lots_of := ⟨a__law_lots_of, fd__law_lots_of, G__law_lots_of, m__law_lots_of, F__law_lots_of.kp, F__law_lots_of.binds (ps := ["some", "many"]) fun _ _ _ _ _ _ us hl => match us, hl with | [_, _], _ => rfl⟩
  obtain ⟨a__law_tells, fd__law_tells, m__law_tells, F__law_tells⟩ := D__law_tells
  have G__law_tells := (ok_law_tells F__law_tells T H__law_lines H__law_lots_of H__law_rank : FnOk P w K mg base CX0 3 a__law_tells fd__law_tells ["floor", "labels", "k", "e"] (spOf K 4 f_law_tells))
  have H__law_tells : Has P w K mg base "_law_tells" 3 ["floor", "labels", "k", "e"] f_law_tells := ⟨a__law_tells, fd__law_tells, G__law_tells, m__law_tells, F__law_tells.kp, F__law_tells.binds (ps := ["floor", "labels", "k", "e"]) fun _ _ _ _ _ _ us hl => match us, hl with | [_, _, _, _], _ => rfl⟩
  obtain ⟨a__law_tiny_floor, fd__law_tiny_floor, m__law_tiny_floor, F__law_tiny_floor⟩ := D__law_tiny_floor
  have G__law_tiny_floor := (ok_law_tiny_floor (E := E0) F__law_tiny_floor T H__law_draw H__law_floor H__law_pick : FnOk P w K mg base CX0 4 a__law_tiny_floor fd__law_tiny_floor ["deck"] (spOf K 1 (f_law_tiny_floor E0)))
  have H__law_tiny_floor : Has P w K mg base "_law_tiny_floor" 4 ["deck"] (f_law_tiny_floor E0) := ⟨a__law_tiny_floor, fd__law_tiny_floor, G__law_tiny_floor, m__law_tiny_floor, F__law_tiny_floor.kp, F__law_tiny_floor.binds (ps := ["deck"]) fun _ _ _ _ _ _ us hl => match us, hl with | [_], _ => rfl⟩
  obtain ⟨a__law_sure, fd__law_sure, m__law_sure, F__law_sure⟩ := D__law_sure
  have G__law_sure := (ok_law_sure F__law_sure T H__law_least : FnOk P w K mg base CX0 2 a__law_sure fd__law_sure ["n", "k", "e"] (spOf K 3 f_law_sure))
  have H__law_sure : Has P w K mg base "_law_sure" 2 ["n", "k", "e"] f_law_sure := ⟨a__law_sure, fd__law_sure, G__law_sure, m__law_sure, F__law_sure.kp, F__law_sure.binds (ps := ["n", "k", "e"]) fun _ _ _ _ _ _ us hl => match us, hl with | [_, _, _], _ => rfl⟩
  obtain ⟨a__law_is_small_right, fd__law_is_small_right, m__law_is_small_right, F__law_is_small_right⟩ := D__law_is_small_right
  have G__law_is_small_right := (ok_law_is_small_right (E := E0) F__law_is_small_right T H__law_draw H__law_floor H__law_lots_of H__law_pick H__law_some_of H__law_sure H__law_tells H__law_tiny_floor H_does_tell H_sure_number HK_does_tell_0_e_k_labels_rings : FnG P w K mg base 8 a__law_is_small_right fd__law_is_small_right ["deck"] (spOf K 1 (f_law_is_small_right E0)))
  have H__law_is_small_right : HasG P w K mg base "_law_is_small_right" 8 ["deck"] (f_law_is_small_right E0) := ⟨a__law_is_small_right, fd__law_is_small_right, G__law_is_small_right, m__law_is_small_right, F__law_is_small_right.kp, F__law_is_small_right.binds (ps := ["deck"]) fun _ _ _ _ _ _ us hl => match us, hl with | [_], _ => rfl⟩
  obtain ⟨a_law, fd_law, m_law, F_law⟩ := D_law
  exact ⟨a_law, fd_law, m_law, F_law, ok_law (E := E0) F_law T H__law_deck H__law_draw H__law_is_small_right H__law_pick H__law_sure H_sure_number HK_sure_number_0_e_k_rings⟩
end K31

end
section
set_option autoImplicit false
set_option linter.all false
set_option maxRecDepth 100000
namespace K31
open DL
variable {S : Type}

def x_primes_of : List D → Option D := xDef 3 (xSeq (xPar [1, 2] (xpOwn (xLst xNil) (xpVal (xC (.int 2)) xpNil))) (xSeq (xWhile (xCmp xoGt (xBor 0) (xC (.int 1))) (xSeq (xWhile (xCmp xoEq (xBin xoMod (xBor 0) (xBor 2)) (xC (.int 0))) (xSeq (xApd 1 (xVar 2)) (xSeq (xSet 0 (xBin xoDiv (xBor 0) (xBor 2))) xsNil))) (xSeq (xAug 2 xoInc (xC (.int 1))) xsNil))) (xSeq (xSeq (xFrz 1) (xRet (xVar 1))) xsNil)))
theorem sim_primes_of : SimF (S := S) f_primes_of x_primes_of := s_def fun ex => (s_seq (s_par rfl (s_pown (s_lst s_nil) (s_pval (s_c (.int 2)) s_pnil))) (s_seq (s_while (s_cmp s_gt (s_bor 0) (s_c (.int 1))) (s_seq (s_while (s_cmp s_eq (s_bin s_mod (s_bor 0) (s_bor 2)) (s_c (.int 0))) (s_seq (s_apd (s_var 2)) (s_seq (s_set (s_bin s_div (s_bor 0) (s_bor 2))) s_snil))) (s_seq (s_aug s_inc (s_c (.int 1))) s_snil))) (s_seq (s_seq (s_frz) (s_ret (s_var 1))) s_snil)))

def x_is_integer : List D → Option D := xDef 1 (xSeq (xRet (xeAnd (xIsI "int" (xBor 0)) (xeNot (xIsI "bool" (xBor 0))))) xsNil)
theorem sim_is_integer : SimF (S := S) f_is_integer x_is_integer := s_def fun ex => (s_seq (s_ret (s_eand (s_isI (s_bor 0)) (s_enot (s_isI (s_bor 0))))) s_snil)

def x_are_integers : List D → Option D := xDef 2 (xSeq (xRet (xeAnd (xIsI "tuple" (xBor 0)) (xFn xfAll (xCons (xLc (xiOf (xVar 0)) (.nm 1) xYes (xFn x_is_integer (xCons (xVar 1) xNil)) [1]) xNil)))) xsNil)
theorem sim_are_integers : SimF (S := S) f_are_integers x_are_integers := s_def fun ex => (s_seq (s_ret (s_eand (s_isI (s_bor 0)) (s_fn s_all (s_cons (s_lc (s_iof (s_var 0)) s_yes (s_call sim_is_integer (s_cons (s_var 1) s_nil))) s_nil)))) s_snil)

def x_size : List D → Option D := xDef 3 (xSeq (xSet 1 (xC (.int 1))) (xSeq (xFor (xiOf (xVar 0)) (.nm 2) (xSeq (xSet 1 (xBin xoMul (xBor 1) (xBor 2))) xsNil)) (xSeq (xRet (xVar 1)) xsNil)))
theorem sim_size : SimF (S := S) f_size x_size := s_def fun ex => (s_seq (s_set (s_c (.int 1))) (s_seq (s_for (s_iof (s_var 0)) (s_seq (s_set (s_bin s_mul (s_bor 1) (s_bor 2))) s_snil)) (s_seq (s_ret (s_var 1)) s_snil)))

def x_are_rings_value : List D → Option D := xDef 2 (xSeq (xsIf (xOr (xNot (xOf (xFn x_are_integers (xCons (xVar 0) xNil)))) (xNot (xtChain xoLe xoLe (xC (.int 1)) (xFn xfLen (xCons (xBor 0) xNil)) (xC (.int 4))))) (xSeq (xRet (xC (.bl false))) xsNil) xsNil) (xSeq (xRet (xeAnd (xFn xfAll (xCons (xLc (xiOf (xVar 0)) (.nm 1) xYes (xChain xoLe xoLe (xC (.int 2)) (xBor 1) (xC (.int 60))) [1]) xNil)) (xBin xoLe (xFn x_size (xCons (xVar 0) xNil)) (xC (.int 60))))) xsNil))
theorem sim_are_rings_value : SimF (S := S) f_are_rings_value x_are_rings_value := s_def fun ex => (s_seq (s_sif (s_or (s_not (s_of (s_call sim_are_integers (s_cons (s_var 0) s_nil)))) (s_not (s_tchain s_le s_le (s_c (.int 1)) (s_fn s_len (s_cons (s_bor 0) s_nil)) (s_c (.int 4))))) (s_seq (s_ret (s_c (.bl false))) s_snil) s_snil) (s_seq (s_ret (s_eand (s_fn s_all (s_cons (s_lc (s_iof (s_var 0)) s_yes (s_chain s_le s_le (s_c (.int 2)) (s_bor 1) (s_c (.int 60)))) s_nil)) (s_bin s_le (s_call sim_size (s_cons (s_var 0) s_nil)) (s_c (.int 60))))) s_snil))

def x_is_place_value : List D → Option D := xDef 4 (xSeq (xsIf (xOr (xNot (xOf (xFn x_are_integers (xCons (xVar 1) xNil)))) (xCmp xoNe (xFn xfLen (xCons (xBor 1) xNil)) (xFn xfLen (xCons (xBor 0) xNil)))) (xSeq (xRet (xC (.bl false))) xsNil) xsNil) (xSeq (xRet (xFn xfAll (xCons (xLc (xiN xZip (xCons (xVar 1) (xCons (xVar 0) xNil))) (.tp [(.nm 2), (.nm 3)]) xYes (xChain xoLe xoLt (xC (.int 0)) (xBor 2) (xBor 3)) [2, 3]) xNil))) xsNil))
theorem sim_is_place_value : SimF (S := S) f_is_place_value x_is_place_value := s_def fun ex => (s_seq (s_sif (s_or (s_not (s_of (s_call sim_are_integers (s_cons (s_var 1) s_nil)))) (s_cmp s_ne (s_fn s_len (s_cons (s_bor 1) s_nil)) (s_fn s_len (s_cons (s_bor 0) s_nil)))) (s_seq (s_ret (s_c (.bl false))) s_snil) s_snil) (s_seq (s_ret (s_fn s_all (s_cons (s_lc (s_zip (s_cons (s_var 1) (s_cons (s_var 0) s_nil))) s_yes (s_chain s_le s_lt (s_c (.int 0)) (s_bor 2) (s_bor 3))) s_nil))) s_snil))

def x_is_lot_value : List D → Option D := xDef 4 (xSeq (xsIf (xOr (xNot (xOf (xIsI "tuple" (xBor 1)))) (xNot (xOf (xFn xfAll (xCons (xLc (xiOf (xVar 1)) (.nm 2) xYes (xFn x_is_place_value (xCons (xVar 0) (xCons (xVar 2) xNil))) [2]) xNil))))) (xSeq (xRet (xC (.bl false))) xsNil) xsNil) (xSeq (xRet (xFn xfAll (xCons (xLc (xiN xZip (xCons (xVar 1) (xCons (xSlT (xVar 1) (xoSome (xC (.int 1))) xoNone) xNil))) (.tp [(.nm 2), (.nm 3)]) xYes (xBin xoLt (xBor 2) (xBor 3)) [2, 3]) xNil))) xsNil))
theorem sim_is_lot_value : SimF (S := S) f_is_lot_value x_is_lot_value := s_def fun ex => (s_seq (s_sif (s_or (s_not (s_of (s_isI (s_bor 1)))) (s_not (s_of (s_fn s_all (s_cons (s_lc (s_iof (s_var 1)) s_yes (s_call sim_is_place_value (s_cons (s_var 0) (s_cons (s_var 2) s_nil)))) s_nil))))) (s_seq (s_ret (s_c (.bl false))) s_snil) s_snil) (s_seq (s_ret (s_fn s_all (s_cons (s_lc (s_zip (s_cons (s_var 1) (s_cons (s_slT (s_var 1) (s_osome (s_c (.int 1))) s_onone) s_nil))) s_yes (s_bin s_lt (s_bor 2) (s_bor 3))) s_nil))) s_snil))

def x_need_rings : List D → Option D := xDef 1 (xSeq (xsIf (xNot (xOf (xFn x_are_rings_value (xCons (xVar 0) xNil)))) (xSeq xNever xsNil) xsNil) xsNil)
theorem sim_need_rings : SimF (S := S) f_need_rings x_need_rings := s_def fun ex => (s_seq (s_sif (s_not (s_of (s_call sim_are_rings_value (s_cons (s_var 0) s_nil)))) (s_seq s_never s_snil) s_snil) s_snil)

def x_need_lot : List D → Option D := xDef 2 (xSeq (xsIf (xNot (xOf (xFn x_is_lot_value (xCons (xVar 0) (xCons (xVar 1) xNil))))) (xSeq xNever xsNil) xsNil) xsNil)
theorem sim_need_lot : SimF (S := S) f_need_lot x_need_lot := s_def fun ex => (s_seq (s_sif (s_not (s_of (s_call sim_is_lot_value (s_cons (s_var 0) (s_cons (s_var 1) s_nil))))) (s_seq s_never s_snil) s_snil) s_snil)

def x_need_count : List D → Option D := xDef 3 (xSeq (xsIf (xOr (xNot (xOf (xFn x_is_integer (xCons (xVar 0) xNil)))) (xOr (xCmp xoLt (xBor 0) (xBor 1)) (xAnd (xCmp xoNotN (xBor 2) (xC .non)) (xCmp xoGt (xBor 0) (xBor 2))))) (xSeq xNever xsNil) xsNil) xsNil)
theorem sim_need_count : SimF (S := S) f_need_count x_need_count := s_def fun ex => (s_seq (s_sif (s_or (s_not (s_of (s_call sim_is_integer (s_cons (s_var 0) s_nil)))) (s_or (s_cmp s_lt (s_bor 0) (s_bor 1)) (s_and (s_cmp s_notN (s_bor 2) (s_c .non)) (s_cmp s_gt (s_bor 0) (s_bor 2))))) (s_seq s_never s_snil) s_snil) s_snil)

def x_order : List D → Option D := xDef 3 (xSeq (xSet 1 (xC (.int 1))) (xSeq (xFor (xiOf (xVar 0)) (.nm 2) (xSeq (xSet 1 (xBin xoMul (xBin xoDiv (xBor 1) (xFn xfGcd (xCons (xBor 1) (xCons (xBor 2) xNil)))) (xBor 2))) xsNil)) (xSeq (xRet (xVar 1)) xsNil)))
theorem sim_order : SimF (S := S) f_order x_order := s_def fun ex => (s_seq (s_set (s_c (.int 1))) (s_seq (s_for (s_iof (s_var 0)) (s_seq (s_set (s_bin s_mul (s_bin s_div (s_bor 1) (s_fn s_gcd (s_cons (s_bor 1) (s_cons (s_bor 2) s_nil)))) (s_bor 2))) s_snil)) (s_seq (s_ret (s_var 1)) s_snil)))

def x_places_of : List D → Option D := xDef 5 (xSeq (xSet 1 (xLst (xCons (xTup xNil) xNil))) (xSeq (xFor (xiOf (xVar 0)) (.nm 2) (xSeq (xSet 1 (xLc2 (xiOf (xVar 1)) (.nm 3) xYes (xiN xRng (xCons (xVar 2) xNil)) (.nm 4) xYes (xBin xoAdd (xBor 3) (xTup (xCons (xVar 4) xNil))) [3, 4] [4])) xsNil)) (xSeq (xRet (xVar 1)) xsNil)))
theorem sim_places_of : SimF (S := S) f_places_of x_places_of := s_def fun ex => (s_seq (s_set (s_lst (s_cons (s_tup s_nil) s_nil))) (s_seq (s_for (s_iof (s_var 0)) (s_seq (s_set (s_lc2 (s_iof (s_var 1)) s_yes (s_rng (s_cons (s_var 2) s_nil)) s_yes (s_bin s_add (s_bor 3) (s_tup (s_cons (s_var 4) s_nil))))) s_snil)) (s_seq (s_ret (s_var 1)) s_snil)))

def x_pair_of : List D → Option D := xDef 7 (xSeq (xSet 3 (xFn x_order (xCons (xVar 0) xNil))) (xSeq (xRet (xBin xoMod (xFn xfSum (xCons (xLc (xiN xZip (xCons (xVar 1) (xCons (xVar 2) (xCons (xVar 0) xNil)))) (.tp [(.nm 4), (.nm 5), (.nm 6)]) xYes (xBin xoMul (xBin xoMul (xBor 4) (xBor 5)) (xBin xoDiv (xBor 3) (xBor 6))) [4, 5, 6]) xNil)) (xBor 3))) xsNil))
theorem sim_pair_of : SimF (S := S) f_pair_of x_pair_of := s_def fun ex => (s_seq (s_set (s_call sim_order (s_cons (s_var 0) s_nil))) (s_seq (s_ret (s_bin s_mod (s_fn s_sum (s_cons (s_lc (s_zip (s_cons (s_var 1) (s_cons (s_var 2) (s_cons (s_var 0) s_nil)))) s_yes (s_bin s_mul (s_bin s_mul (s_bor 4) (s_bor 5)) (s_bin s_div (s_bor 3) (s_bor 6)))) s_nil)) (s_bor 3))) s_snil))

def x_choices_for : List D → Option D := xDef 6 (xSeq (xOwn 2 (xLst xNil)) (xSeq (xFor (xiN xRng (xCons (xC (.int 1)) (xCons (xBin xoAdd (xBor 0) (xC (.int 1))) xNil))) (.nm 3) (xSeq (xsIf (xAnd (xCmp xoEq (xBin xoMod (xBor 0) (xBor 3)) (xC (.int 0))) (xCmp xoLe (xBor 3) (xBor 1))) (xSeq (xFor (xiOf (xFn x_primes_of (xCons (xBin xoDiv (xBor 0) (xBor 3)) xNil))) (.nm 4) (xSeq (xSet 5 (xFn xfMin2 (xCons (xBor 4) (xCons (xBin xoDiv (xBor 1) (xBor 3)) xNil)))) (xSeq (xApd 2 (xTup (xCons (xBin xoMul (xBin xoDiv (xBor 0) (xBin xoMul (xBor 3) (xBor 4))) (xBin xoSub (xBin xoAdd (xBor 4) (xC (.int 1))) (xBor 5))) (xCons (xVar 3) (xCons (xVar 4) (xCons (xVar 5) xNil)))))) xsNil))) xsNil) xsNil) xsNil)) (xSeq (xSeq (xFrz 2) (xRet (xVar 2))) xsNil)))
theorem sim_choices_for : SimF (S := S) f_choices_for x_choices_for := s_def fun ex => (s_seq (s_own (s_lst s_nil)) (s_seq (s_for (s_rng (s_cons (s_c (.int 1)) (s_cons (s_bin s_add (s_bor 0) (s_c (.int 1))) s_nil))) (s_seq (s_sif (s_and (s_cmp s_eq (s_bin s_mod (s_bor 0) (s_bor 3)) (s_c (.int 0))) (s_cmp s_le (s_bor 3) (s_bor 1))) (s_seq (s_for (s_iof (s_call sim_primes_of (s_cons (s_bin s_div (s_bor 0) (s_bor 3)) s_nil))) (s_seq (s_set (s_fn s_min2 (s_cons (s_bor 4) (s_cons (s_bin s_div (s_bor 1) (s_bor 3)) s_nil)))) (s_seq (s_apd (s_tup (s_cons (s_bin s_mul (s_bin s_div (s_bor 0) (s_bin s_mul (s_bor 3) (s_bor 4))) (s_bin s_sub (s_bin s_add (s_bor 4) (s_c (.int 1))) (s_bor 5))) (s_cons (s_var 3) (s_cons (s_var 4) (s_cons (s_var 5) s_nil)))))) s_snil))) s_snil) s_snil) s_snil)) (s_seq (s_seq (s_frz) (s_ret (s_var 2))) s_snil)))

def x_least_voices : List D → Option D := xDef 3 (xSeq (xRet (xFn xfMin1 (xCons (xLc (xiOf (xFn x_choices_for (xCons (xVar 0) (xCons (xVar 1) xNil)))) (.nm 2) xYes (xBin xoIx (xBor 2) (xC (.int 0))) [2]) xNil))) xsNil)
theorem sim_least_voices : SimF (S := S) f_least_voices x_least_voices := s_def fun ex => (s_seq (s_ret (s_fn s_min1 (s_cons (s_lc (s_iof (s_call sim_choices_for (s_cons (s_var 0) (s_cons (s_var 1) s_nil)))) s_yes (s_bin s_ix (s_bor 2) (s_c (.int 0)))) s_nil))) s_snil)

def x_turn_remainders : List D → Option D := xDef 4 (xSeq (xPar [1, 2] (xpVal (xC (.int 1)) (xpOwn (xLst (xCons (xC (.int 1)) xNil)) xpNil))) (xSeq (xFor (xiN xRng (xCons (xBin xoDiv (xC (.int 840)) (xBor 0)) xNil)) (.nm 3) (xSeq (xSet 1 (xBin xoMod (xBin xoMul (xBor 1) (xC (.int 989038565289215304))) (xC (.int 1000000000000002961)))) xsNil)) (xSeq (xFor (xiN xRng (xCons (xBin xoSub (xBor 0) (xC (.int 1))) xNil)) (.nm 3) (xSeq (xApd 2 (xBin xoMod (xBin xoMul (xBin xoIx (xBor 2) (xUn xoNeg (xC (.int 1)))) (xBor 1)) (xC (.int 1000000000000002961)))) xsNil)) (xSeq (xSeq (xFrz 2) (xRet (xVar 2))) xsNil))))
theorem sim_turn_remainders : SimF (S := S) f_turn_remainders x_turn_remainders := s_def fun ex => (s_seq (s_par rfl (s_pval (s_c (.int 1)) (s_pown (s_lst (s_cons (s_c (.int 1)) s_nil)) s_pnil))) (s_seq (s_for (s_rng (s_cons (s_bin s_div (s_c (.int 840)) (s_bor 0)) s_nil)) (s_seq (s_set (s_bin s_mod (s_bin s_mul (s_bor 1) (s_c (.int 989038565289215304))) (s_c (.int 1000000000000002961)))) s_snil)) (s_seq (s_for (s_rng (s_cons (s_bin s_sub (s_bor 0) (s_c (.int 1))) s_nil)) (s_seq (s_apd (s_bin s_mod (s_bin s_mul (s_bin s_ix (s_bor 2) (s_un s_neg (s_c (.int 1)))) (s_bor 1)) (s_c (.int 1000000000000002961)))) s_snil)) (s_seq (s_seq (s_frz) (s_ret (s_var 2))) s_snil))))

def x_rank_by_remainders : List D → Option D := xDef 9 (xSeq (xPar [1, 2] (xpVal (xVar 0) (xpVal (xC (.int 0)) xpNil))) (xSeq (xWhile (xCmp xoNe (xBor 1) (xLst xNil)) (xSeq (xPar [3, 1] (xpVal (xBin xoIx (xBor 1) (xC (.int 0))) (xpVal (xSlL (xBor 1) (xoSome (xC (.int 1))) xoNone) xpNil))) (xSeq (xSet 4 (xLc (xiN xEnum (xCons (xVar 3) xNil)) (.tp [(.nm 5), (.nm 6)]) (xCmp xoNe (xBor 6) (xC (.int 0))) (xVar 5) [5, 6])) (xSeq (xsIf (xCmp xoNe (xBor 4) (xLst xNil)) (xSeq (xPar [5, 2] (xpVal (xBin xoIx (xBor 4) (xC (.int 0))) (xpVal (xBin xoAdd (xBor 2) (xC (.int 1))) xpNil))) (xSeq (xSet 1 (xLc (xiOf (xVar 1)) (.nm 8) xYes (xLc (xiN xZip (xCons (xVar 8) (xCons (xVar 3) xNil))) (.tp [(.nm 6), (.nm 7)]) xYes (xBin xoMod (xBin xoSub (xBin xoMul (xBor 6) (xBin xoIx (xBor 3) (xBor 5))) (xBin xoMul (xBor 7) (xBin xoIx (xBor 8) (xBor 5)))) (xC (.int 1000000000000002961))) [6, 7]) [8])) xsNil)) xsNil) xsNil)))) (xSeq (xRet (xVar 2)) xsNil)))
theorem sim_rank_by_remainders : SimF (S := S) f_rank_by_remainders x_rank_by_remainders := s_def fun ex => (s_seq (s_par rfl (s_pval (s_var 0) (s_pval (s_c (.int 0)) s_pnil))) (s_seq (s_while (s_cmp s_ne (s_bor 1) (s_lst s_nil)) (s_seq (s_par rfl (s_pval (s_bin s_ix (s_bor 1) (s_c (.int 0))) (s_pval (s_slL (s_bor 1) (s_osome (s_c (.int 1))) s_onone) s_pnil))) (s_seq (s_set (s_lc (s_enum (s_cons (s_var 3) s_nil)) (s_cmp s_ne (s_bor 6) (s_c (.int 0))) (s_var 5))) (s_seq (s_sif (s_cmp s_ne (s_bor 4) (s_lst s_nil)) (s_seq (s_par rfl (s_pval (s_bin s_ix (s_bor 4) (s_c (.int 0))) (s_pval (s_bin s_add (s_bor 2) (s_c (.int 1))) s_pnil))) (s_seq (s_set (s_lc (s_iof (s_var 1)) s_yes (s_lc (s_zip (s_cons (s_var 8) (s_cons (s_var 3) s_nil))) s_yes (s_bin s_mod (s_bin s_sub (s_bin s_mul (s_bor 6) (s_bin s_ix (s_bor 3) (s_bor 5))) (s_bin s_mul (s_bor 7) (s_bin s_ix (s_bor 8) (s_bor 5)))) (s_c (.int 1000000000000002961)))))) s_snil)) s_snil) s_snil)))) (s_seq (s_ret (s_var 2)) s_snil)))

def x_first_gap : List D → Option D := xDef 13 (xSeq (xPar [4, 5] (xpVal (xFn x_order (xCons (xVar 0) xNil)) (xpVal (xFn x_places_of (xCons (xVar 0) xNil)) xpNil))) (xSeq (xSet 6 (xFn x_turn_remainders (xCons (xVar 4) xNil))) (xSeq (xFor (xiN xComb (xCons (xSlL (xBor 5) (xoSome (xC (.int 1))) xoNone) (xCons (xFn xfInt (xCons (xBin xoSub (xBor 2) (xC (.int 1))) xNil)) xNil))) (.nm 7) (xSeq (xSet 8 (xBin xoCat (xSlL (xBor 5) xoNone (xoSome (xC (.int 1)))) (xFn xfListA (xCons (xBor 7) xNil)))) (xSeq (xSet 9 (xDc (xiOf (xVar 1)) (.nm 11) xYes (xVar 11) (xLc (xiOf (xVar 8)) (.nm 10) xYes (xBin xoIx (xBor 6) (xFn x_pair_of (xCons (xVar 0) (xCons (xVar 10) (xCons (xVar 11) xNil))))) [10]) [11])) (xSeq (xFor (xiN xComb (xCons (xFn xfListA (xCons (xBor 1) xNil)) (xCons (xFn xfInt (xCons (xBor 3) xNil)) xNil))) (.nm 12) (xSeq (xsIf (xCmp xoLt (xFn x_rank_by_remainders (xCons (xLc (xiOf (xVar 12)) (.nm 11) xYes (xBin xoDget (xBor 9) (xBor 11)) [11]) xNil)) (xBor 2)) (xSeq (xRet (xTup (xCons (xVar 8) (xCons (xFn xfListA (xCons (xBor 12) xNil)) xNil)))) xsNil) xsNil) xsNil)) xsNil)))) (xSeq (xRet (xC .non)) xsNil))))
theorem sim_first_gap : SimF (S := S) f_first_gap x_first_gap := s_def fun ex => (s_seq (s_par rfl (s_pval (s_call sim_order (s_cons (s_var 0) s_nil)) (s_pval (s_call sim_places_of (s_cons (s_var 0) s_nil)) s_pnil))) (s_seq (s_set (s_call sim_turn_remainders (s_cons (s_var 4) s_nil))) (s_seq (s_for (s_comb (s_cons (s_slL (s_bor 5) (s_osome (s_c (.int 1))) s_onone) (s_cons (s_fn s_int (s_cons (s_bin s_sub (s_bor 2) (s_c (.int 1))) s_nil)) s_nil))) (s_seq (s_set (s_bin s_cat (s_slL (s_bor 5) s_onone (s_osome (s_c (.int 1)))) (s_fn s_listA (s_cons (s_bor 7) s_nil)))) (s_seq (s_set (s_dcT (s_iof (s_var 1)) s_yes (s_var 11) (s_lc (s_iof (s_var 8)) s_yes (s_bin s_ix (s_bor 6) (s_call sim_pair_of (s_cons (s_var 0) (s_cons (s_var 10) (s_cons (s_var 11) s_nil)))))))) (s_seq (s_for (s_comb (s_cons (s_fn s_listA (s_cons (s_bor 1) s_nil)) (s_cons (s_fn s_int (s_cons (s_bor 3) s_nil)) s_nil))) (s_seq (s_sif (s_cmp s_lt (s_call sim_rank_by_remainders (s_cons (s_lc (s_iof (s_var 12)) s_yes (s_bin s_dget (s_bor 9) (s_bor 11))) s_nil)) (s_bor 2)) (s_seq (s_ret (s_tup (s_cons (s_var 8) (s_cons (s_fn s_listA (s_cons (s_bor 12) s_nil)) s_nil)))) s_snil) s_snil) s_snil)) s_snil)))) (s_seq (s_ret (s_c .non)) s_snil))))

def x_places_asked : List D → Option D := xDef 2 (xSeq (xRet (xFn xfMin2 (xCons (xBin xoMul (xC (.int 2)) (xBor 1)) (xCons (xFn x_size (xCons (xVar 0) xNil)) xNil)))) xsNil)
theorem sim_places_asked : SimF (S := S) f_places_asked x_places_asked := s_def fun ex => (s_seq (s_ret (s_fn s_min2 (s_cons (s_bin s_mul (s_c (.int 2)) (s_bor 1)) (s_cons (s_call sim_size (s_cons (s_var 0) s_nil)) s_nil)))) s_snil)

def x_are_telling : List D → Option D := xDef 5 (xSeq (xSet 4 (xBin xoSub (xFn xfLen (xCons (xBor 1) xNil)) (xBin xoMul (xC (.int 2)) (xBor 3)))) (xSeq (xRet (xeAnd (xBin xoGt (xBor 4) (xC (.int 0))) (xBin xoIsN (xFn x_first_gap (xCons (xVar 0) (xCons (xVar 1) (xCons (xFn x_places_asked (xCons (xVar 0) (xCons (xVar 2) xNil))) (xCons (xVar 4) xNil))))) (xC .non)))) xsNil))
theorem sim_are_telling : SimF (S := S) f_are_telling x_are_telling := s_def fun ex => (s_seq (s_set (s_bin s_sub (s_fn s_len (s_cons (s_bor 1) s_nil)) (s_bin s_mul (s_c (.int 2)) (s_bor 3)))) (s_seq (s_ret (s_eand (s_bin s_gt (s_bor 4) (s_c (.int 0))) (s_bin s_isN (s_call sim_first_gap (s_cons (s_var 0) (s_cons (s_var 1) (s_cons (s_call sim_places_asked (s_cons (s_var 0) (s_cons (s_var 2) s_nil))) (s_cons (s_var 4) s_nil))))) (s_c .non)))) s_snil))

def x_sure_many : List D → Option D := xDef 4 (xSeq (xSet 3 (xBin xoAdd (xBin xoSub (xBin xoAdd (xBor 0) (xC (.int 1))) (xFn x_least_voices (xCons (xVar 0) (xCons (xFn xfMin2 (xCons (xBin xoMul (xC (.int 2)) (xBor 1)) (xCons (xBor 0) xNil))) xNil)))) (xBin xoMul (xC (.int 2)) (xBor 2)))) (xSeq (xRet (xIf (xCmp xoLe (xBor 3) (xBor 0)) (xVar 3) (xC .non))) xsNil))
theorem sim_sure_many : SimF (S := S) f_sure_many x_sure_many := s_def fun ex => (s_seq (s_set (s_bin s_add (s_bin s_sub (s_bin s_add (s_bor 0) (s_c (.int 1))) (s_call sim_least_voices (s_cons (s_var 0) (s_cons (s_fn s_min2 (s_cons (s_bin s_mul (s_c (.int 2)) (s_bor 1)) (s_cons (s_bor 0) s_nil))) s_nil)))) (s_bin s_mul (s_c (.int 2)) (s_bor 2)))) (s_seq (s_ret (s_if (s_cmp s_le (s_bor 3) (s_bor 0)) (s_var 3) (s_c .non))) s_snil))

def x_need_counts : List D → Option D := xDef 3 (xSeq (xDrop (xFn x_need_count (xCons (xVar 1) (xCons (xC (.int 1)) (xCons (xFn x_size (xCons (xVar 0) xNil)) xNil))))) (xSeq (xDrop (xFn (fun ds => x_need_count ((· ++ [.non]) ds)) (xCons (xVar 2) (xCons (xC (.int 0)) xNil)))) xsNil))
theorem sim_need_counts : SimF (S := S) f_need_counts x_need_counts := s_def fun ex => (s_seq (s_drop (s_call sim_need_count (s_cons (s_var 1) (s_cons (s_c (.int 1)) (s_cons (s_call sim_size (s_cons (s_var 0) s_nil)) s_nil))))) (s_seq (s_drop (s_callK sim_need_count (s_cons (s_var 2) (s_cons (s_c (.int 0)) s_nil)))) s_snil))

def x_need_telling : List D → Option D := xDef 4 (xSeq (xDrop (xFn x_need_rings (xCons (xVar 0) xNil))) (xSeq (xDrop (xFn x_need_lot (xCons (xVar 0) (xCons (xVar 1) xNil)))) (xSeq (xDrop (xFn x_need_counts (xCons (xVar 0) (xCons (xVar 2) (xCons (xVar 3) xNil))))) xsNil)))
theorem sim_need_telling : SimF (S := S) f_need_telling x_need_telling := s_def fun ex => (s_seq (s_drop (s_call sim_need_rings (s_cons (s_var 0) s_nil))) (s_seq (s_drop (s_call sim_need_lot (s_cons (s_var 0) (s_cons (s_var 1) s_nil)))) (s_seq (s_drop (s_call sim_need_counts (s_cons (s_var 0) (s_cons (s_var 2) (s_cons (s_var 3) s_nil))))) s_snil)))

def x_does_tell : List D → Option D := xDef 4 (xSeq (xDrop (xFn x_need_telling (xCons (xVar 0) (xCons (xVar 1) (xCons (xVar 2) (xCons (xVar 3) xNil)))))) (xSeq (xRet (xFn x_are_telling (xCons (xVar 0) (xCons (xVar 1) (xCons (xVar 2) (xCons (xVar 3) xNil)))))) xsNil))
theorem sim_does_tell : SimF (S := S) f_does_tell x_does_tell := s_def fun ex => (s_seq (s_drop (s_call sim_need_telling (s_cons (s_var 0) (s_cons (s_var 1) (s_cons (s_var 2) (s_cons (s_var 3) s_nil)))))) (s_seq (s_ret (s_call sim_are_telling (s_cons (s_var 0) (s_cons (s_var 1) (s_cons (s_var 2) (s_cons (s_var 3) s_nil)))))) s_snil))

def x_sure_number : List D → Option D := xDef 3 (xSeq (xDrop (xFn x_need_rings (xCons (xVar 0) xNil))) (xSeq (xDrop (xFn x_need_counts (xCons (xVar 0) (xCons (xVar 1) (xCons (xVar 2) xNil))))) (xSeq (xRet (xFn x_sure_many (xCons (xFn x_size (xCons (xVar 0) xNil)) (xCons (xVar 1) (xCons (xVar 2) xNil))))) xsNil)))
theorem sim_sure_number : SimF (S := S) f_sure_number x_sure_number := s_def fun ex => (s_seq (s_drop (s_call sim_need_rings (s_cons (s_var 0) s_nil))) (s_seq (s_drop (s_call sim_need_counts (s_cons (s_var 0) (s_cons (s_var 1) (s_cons (s_var 2) s_nil))))) (s_seq (s_ret (s_call sim_sure_many (s_cons (s_call sim_size (s_cons (s_var 0) s_nil)) (s_cons (s_var 1) (s_cons (s_var 2) s_nil))))) s_snil)))

def x_law_common : List D → Option D := xDef 2 (xSeq (xPar [0, 1] (xpVal (xFn xfAbs (xCons (xBor 0) xNil)) (xpVal (xFn xfAbs (xCons (xBor 1) xNil)) xpNil))) (xSeq (xWhile (xCmp xoNe (xBor 1) (xC (.int 0))) (xSeq (xPar [0, 1] (xpVal (xVar 1) (xpVal (xBin xoMod (xFn xfInt (xCons (xBor 0) xNil)) (xBor 1)) xpNil))) xsNil)) (xSeq (xRet (xVar 0)) xsNil)))
theorem sim_law_common : SimF (S := S) f_law_common x_law_common := s_def fun ex => (s_seq (s_par rfl (s_pval (s_fn s_abs (s_cons (s_bor 0) s_nil)) (s_pval (s_fn s_abs (s_cons (s_bor 1) s_nil)) s_pnil))) (s_seq (s_while (s_cmp s_ne (s_bor 1) (s_c (.int 0))) (s_seq (s_par rfl (s_pval (s_var 1) (s_pval (s_bin s_mod (s_fn s_int (s_cons (s_bor 0) s_nil)) (s_bor 1)) s_pnil))) s_snil)) (s_seq (s_ret (s_var 0)) s_snil)))

def x_law_divided : List D → Option D := xDef 9 (xSeq (xPar [2, 3, 4] (xpOwn (xFn xfListA (xCons (xBor 0) xNil)) (xpOwn (xLst xNil) (xpVal (xBin xoSub (xFn xfLen (xCons (xBor 1) xNil)) (xC (.int 1))) xpNil)))) (xSeq (xFor (xiN xRng (xCons (xBin xoSub (xFn xfLen (xCons (xBor 2) xNil)) (xC (.int 1))) (xCons (xBin xoSub (xBor 4) (xC (.int 1))) (xCons (xUn xoNeg (xC (.int 1))) xNil)))) (.nm 5) (xSeq (xSet 6 (xBin xoIx (xBor 2) (xBor 5))) (xSeq (xApd 3 (xVar 6)) (xSeq (xFor (xiN xEnum (xCons (xVar 1) xNil)) (.tp [(.nm 7), (.nm 8)]) (xSeq (xPutL 2 (xBin xoAdd (xBin xoSub (xBor 5) (xBor 4)) (xBor 7)) (xBin xoSub (xBin xoIx (xBor 2) (xBin xoAdd (xBin xoSub (xBor 5) (xBor 4)) (xBor 7))) (xBin xoMul (xBor 6) (xBor 8)))) xsNil)) xsNil)))) (xSeq (xRet (xRev (xBor 3))) xsNil)))
theorem sim_law_divided : SimF (S := S) f_law_divided x_law_divided := s_def fun ex => (s_seq (s_par rfl (s_pown (s_fn s_listA (s_cons (s_bor 0) s_nil)) (s_pown (s_lst s_nil) (s_pval (s_bin s_sub (s_fn s_len (s_cons (s_bor 1) s_nil)) (s_c (.int 1))) s_pnil)))) (s_seq (s_for (s_rng (s_cons (s_bin s_sub (s_fn s_len (s_cons (s_bor 2) s_nil)) (s_c (.int 1))) (s_cons (s_bin s_sub (s_bor 4) (s_c (.int 1))) (s_cons (s_un s_neg (s_c (.int 1))) s_nil)))) (s_seq (s_set (s_bin s_ix (s_bor 2) (s_bor 5))) (s_seq (s_apd (s_var 6)) (s_seq (s_for (s_enum (s_cons (s_var 1) s_nil)) (s_seq (s_put (s_bin s_add (s_bin s_sub (s_bor 5) (s_bor 4)) (s_bor 7)) (s_bin s_sub (s_bin s_ix (s_bor 2) (s_bin s_add (s_bin s_sub (s_bor 5) (s_bor 4)) (s_bor 7))) (s_bin s_mul (s_bor 6) (s_bor 8)))) s_snil)) s_snil)))) (s_seq (s_ret (s_rev (s_bor 3))) s_snil)))

def x_law_ring_polynomial : List D → Option D := xDef 5 (xSeq (xOwn 1 xNewK) (xSeq (xFor (xiN xRng (xCons (xC (.int 1)) (xCons (xBin xoAdd (xBor 0) (xC (.int 1))) xNil))) (.nm 2) (xSeq (xsIf (xCmp xoEq (xBin xoMod (xFn xfInt (xCons (xBor 0) xNil)) (xBor 2)) (xC (.int 0))) (xSeq (xSet 3 (xBin xoCat (xBin xoCat (xLst (xCons (xUn xoNeg (xC (.int 1))) xNil)) (xBin xoRep (xLst (xCons (xC (.int 0)) xNil)) (xBin xoSub (xBor 2) (xC (.int 1))))) (xLst (xCons (xC (.int 1)) xNil)))) (xSeq (xFor (xiOf (xFn xfSorted (xCons (xFn xfListA (xCons (xBor 1) xNil)) xNil))) (.nm 4) (xSeq (xsIf (xCmp xoEq (xBin xoMod (xFn xfInt (xCons (xBor 2) xNil)) (xBor 4)) (xC (.int 0))) (xSeq (xSet 3 (xFn x_law_divided (xCons (xVar 3) (xCons (xBin xoDget (xBor 1) (xBor 4)) xNil)))) xsNil) xsNil) xsNil)) (xSeq (xDkPut 1 (xBor 2) (xVar 3)) xsNil))) xsNil) xsNil)) (xSeq (xRet (xBin xoDget (xBor 1) (xBor 0))) xsNil)))
theorem sim_law_ring_polynomial : SimF (S := S) f_law_ring_polynomial x_law_ring_polynomial := s_def fun ex => (s_seq (s_own s_newK) (s_seq (s_for (s_rng (s_cons (s_c (.int 1)) (s_cons (s_bin s_add (s_bor 0) (s_c (.int 1))) s_nil))) (s_seq (s_sif (s_cmp s_eq (s_bin s_mod (s_fn s_int (s_cons (s_bor 0) s_nil)) (s_bor 2)) (s_c (.int 0))) (s_seq (s_set (s_bin s_cat (s_bin s_cat (s_lst (s_cons (s_un s_neg (s_c (.int 1))) s_nil)) (s_bin s_rep (s_lst (s_cons (s_c (.int 0)) s_nil)) (s_bin s_sub (s_bor 2) (s_c (.int 1))))) (s_lst (s_cons (s_c (.int 1)) s_nil)))) (s_seq (s_for (s_iof (s_fn s_sorted (s_cons (s_fn s_listA (s_cons (s_bor 1) s_nil)) s_nil))) (s_seq (s_sif (s_cmp s_eq (s_bin s_mod (s_fn s_int (s_cons (s_bor 2) s_nil)) (s_bor 4)) (s_c (.int 0))) (s_seq (s_set (s_call sim_law_divided (s_cons (s_var 3) (s_cons (s_bin s_dget (s_bor 1) (s_bor 4)) s_nil)))) s_snil) s_snil) s_snil)) (s_seq (s_dkPut (s_bor 2) (s_var 3)) s_snil))) s_snil) s_snil)) (s_seq (s_ret (s_bin s_dget (s_bor 1) (s_bor 0))) s_snil)))

def x_law_floor : List D → Option D := xDef 8 (xSeq (xPar [1, 2] (xpVal (xC (.int 1)) (xpVal (xC (.int 1)) xpNil))) (xSeq (xFor (xiOf (xVar 0)) (.nm 3) (xSeq (xPar [1, 2] (xpVal (xBin xoMul (xBor 1) (xBor 3)) (xpVal (xBin xoDiv (xBin xoMul (xBor 2) (xBor 3)) (xFn x_law_common (xCons (xVar 2) (xCons (xVar 3) xNil)))) xpNil))) xsNil)) (xSeq (xSet 4 (xLst (xCons (xTup xNil) xNil))) (xSeq (xFor (xiOf (xVar 0)) (.nm 3) (xSeq (xOwn 5 (xLst xNil)) (xSeq (xFor (xiOf (xVar 4)) (.nm 6) (xSeq (xExt 5 (xLc (xiN xRng (xCons (xVar 3) xNil)) (.nm 7) xYes (xBin xoAdd (xBor 6) (xTup (xCons (xVar 7) xNil))) [7])) xsNil)) (xSeq (xSeq (xFrz 5) (xSet 4 (xVar 5))) xsNil)))) (xSeq (xRet (xDk ["rings", "n", "e", "poly", "places"] (xCons (xVar 0) (xCons (xVar 1) (xCons (xVar 2) (xCons (xFn x_law_ring_polynomial (xCons (xVar 2) xNil)) (xCons (xVar 4) xNil))))))) xsNil)))))
theorem sim_law_floor : SimF (S := S) f_law_floor x_law_floor := s_def fun ex => (s_seq (s_par rfl (s_pval (s_c (.int 1)) (s_pval (s_c (.int 1)) s_pnil))) (s_seq (s_for (s_iof (s_var 0)) (s_seq (s_par rfl (s_pval (s_bin s_mul (s_bor 1) (s_bor 3)) (s_pval (s_bin s_div (s_bin s_mul (s_bor 2) (s_bor 3)) (s_call sim_law_common (s_cons (s_var 2) (s_cons (s_var 3) s_nil)))) s_pnil))) s_snil)) (s_seq (s_set (s_lst (s_cons (s_tup s_nil) s_nil))) (s_seq (s_for (s_iof (s_var 0)) (s_seq (s_own (s_lst s_nil)) (s_seq (s_for (s_iof (s_var 4)) (s_seq (s_ext (s_lc (s_rng (s_cons (s_var 3) s_nil)) s_yes (s_bin s_add (s_bor 6) (s_tup (s_cons (s_var 7) s_nil))))) s_snil)) (s_seq (s_seq (s_frz) (s_set (s_var 5))) s_snil)))) (s_seq (s_ret (s_dk (s_cons (s_var 0) (s_cons (s_var 1) (s_cons (s_var 2) (s_cons (s_call sim_law_ring_polynomial (s_cons (s_var 2) s_nil)) (s_cons (s_var 4) s_nil))))))) s_snil)))))

def x_law_pairing : List D → Option D := xDef 7 (xSeq (xSet 3 (xBin xoDget (xBor 0) (xC (.str "e")))) (xSeq (xRet (xBin xoMod (xFn xfInt (xCons (xFn xfSum (xCons (xLc (xiN xZip (xCons (xVar 1) (xCons (xVar 2) (xCons (xBin xoDget (xBor 0) (xC (.str "rings"))) xNil)))) (.tp [(.nm 4), (.nm 5), (.nm 6)]) xYes (xBin xoMul (xBin xoMul (xBor 4) (xBor 5)) (xBin xoDiv (xBor 3) (xBor 6))) [4, 5, 6]) xNil)) xNil)) (xBor 3))) xsNil))
theorem sim_law_pairing : SimF (S := S) f_law_pairing x_law_pairing := s_def fun ex => (s_seq (s_set (s_bin s_dget (s_bor 0) (s_c (.str "e")))) (s_seq (s_ret (s_bin s_mod (s_fn s_int (s_cons (s_fn s_sum (s_cons (s_lc (s_zip (s_cons (s_var 1) (s_cons (s_var 2) (s_cons (s_bin s_dget (s_bor 0) (s_c (.str "rings"))) s_nil)))) s_yes (s_bin s_mul (s_bin s_mul (s_bor 4) (s_bor 5)) (s_bin s_div (s_bor 3) (s_bor 6)))) s_nil)) s_nil)) (s_bor 3))) s_snil))

def x_law_root : List D → Option D := xDef 6 (xSeq (xPar [1, 2, 3, 4] (xpVal (xBin xoAdd (xBin xoPow (xC (.int 10)) (xC (.int 30))) (xC (.int 386001))) (xpVal (xC (.int 1)) (xpVal (xC (.int 285064752639868500307534270207)) (xpVal (xBin xoDiv (xC (.int 27720)) (xBor 0)) xpNil))))) (xSeq (xFor (xiN xRng (xCons (xC (.int 20)) xNil)) (.nm 5) (xSeq (xsIf (xCmp xoEq (xBor 4) (xC (.int 0))) (xSeq xBrk xsNil) xsNil) (xSeq (xsIf (xCmp xoEq (xBin xoMod (xFn xfInt (xCons (xBor 4) xNil)) (xC (.int 2))) (xC (.int 1))) (xSeq (xSet 2 (xBin xoMod (xFn xfInt (xCons (xBin xoMul (xBor 2) (xBor 3)) xNil)) (xBor 1))) xsNil) xsNil) (xSeq (xPar [3, 4] (xpVal (xBin xoMod (xFn xfInt (xCons (xBin xoMul (xBor 3) (xBor 3)) xNil)) (xBor 1)) (xpVal (xBin xoDiv (xBor 4) (xC (.int 2))) xpNil))) xsNil)))) (xSeq (xRet (xVar 2)) xsNil)))
theorem sim_law_root : SimF (S := S) f_law_root x_law_root := s_def fun ex => (s_seq (s_par rfl (s_pval (s_bin s_add (s_bin s_pow (s_c (.int 10)) (s_c (.int 30))) (s_c (.int 386001))) (s_pval (s_c (.int 1)) (s_pval (s_c (.int 285064752639868500307534270207)) (s_pval (s_bin s_div (s_c (.int 27720)) (s_bor 0)) s_pnil))))) (s_seq (s_for (s_rng (s_cons (s_c (.int 20)) s_nil)) (s_seq (s_sif (s_cmp s_eq (s_bor 4) (s_c (.int 0))) (s_seq s_brk s_snil) s_snil) (s_seq (s_sif (s_cmp s_eq (s_bin s_mod (s_fn s_int (s_cons (s_bor 4) s_nil)) (s_c (.int 2))) (s_c (.int 1))) (s_seq (s_set (s_bin s_mod (s_fn s_int (s_cons (s_bin s_mul (s_bor 2) (s_bor 3)) s_nil)) (s_bor 1))) s_snil) s_snil) (s_seq (s_par rfl (s_pval (s_bin s_mod (s_fn s_int (s_cons (s_bin s_mul (s_bor 3) (s_bor 3)) s_nil)) (s_bor 1)) (s_pval (s_bin s_div (s_bor 4) (s_c (.int 2))) s_pnil))) s_snil)))) (s_seq (s_ret (s_var 2)) s_snil)))

def x_law_lines : List D → Option D := xDef 9 (xSeq (xPar [3, 4, 5] (xpVal (xBin xoAdd (xBin xoPow (xC (.int 10)) (xC (.int 30))) (xC (.int 386001))) (xpOwn (xLst (xCons (xC (.int 1)) xNil)) (xpVal (xFn x_law_root (xCons (xBin xoDget (xBor 0) (xC (.str "e"))) xNil)) xpNil)))) (xSeq (xFor (xiN xRng (xCons (xBin xoSub (xBin xoDget (xBor 0) (xC (.str "e"))) (xC (.int 1))) xNil)) (.nm 6) (xSeq (xApd 4 (xBin xoMod (xFn xfInt (xCons (xBin xoMul (xBin xoIx (xBor 4) (xUn xoNeg (xC (.int 1)))) (xBor 5)) xNil)) (xBor 3))) xsNil)) (xSeq (xRet (xLc (xiOf (xVar 2)) (.nm 8) xYes (xLc (xiOf (xVar 1)) (.nm 7) xYes (xBin xoIx (xBor 4) (xFn x_law_pairing (xCons (xVar 0) (xCons (xVar 7) (xCons (xVar 8) xNil))))) [7]) [8])) xsNil)))
theorem sim_law_lines : SimF (S := S) f_law_lines x_law_lines := s_def fun ex => (s_seq (s_par rfl (s_pval (s_bin s_add (s_bin s_pow (s_c (.int 10)) (s_c (.int 30))) (s_c (.int 386001))) (s_pown (s_lst (s_cons (s_c (.int 1)) s_nil)) (s_pval (s_call sim_law_root (s_cons (s_bin s_dget (s_bor 0) (s_c (.str "e"))) s_nil)) s_pnil)))) (s_seq (s_for (s_rng (s_cons (s_bin s_sub (s_bin s_dget (s_bor 0) (s_c (.str "e"))) (s_c (.int 1))) s_nil)) (s_seq (s_apd (s_bin s_mod (s_fn s_int (s_cons (s_bin s_mul (s_bin s_ix (s_bor 4) (s_un s_neg (s_c (.int 1)))) (s_bor 5)) s_nil)) (s_bor 3))) s_snil)) (s_seq (s_ret (s_lc (s_iof (s_var 2)) s_yes (s_lc (s_iof (s_var 1)) s_yes (s_bin s_ix (s_bor 4) (s_call sim_law_pairing (s_cons (s_var 0) (s_cons (s_var 7) (s_cons (s_var 8) s_nil)))))))) s_snil)))

def x_law_rank : List D → Option D := xDef 14 (xSeq (xPar [1, 2, 3] (xpVal (xBin xoAdd (xBin xoPow (xC (.int 10)) (xC (.int 30))) (xC (.int 386001))) (xpVal (xLc (xiOf (xVar 0)) (.nm 4) xYes (xFn xfListA (xCons (xBor 4) xNil)) [4]) (xpVal (xC (.int 0)) xpNil)))) (xSeq (xFor (xiN xRng (xCons (xIf (xCmp xoNe (xBor 2) (xLst xNil)) (xFn xfLen (xCons (xBin xoIx (xBor 2) (xC (.int 0))) xNil)) (xC (.int 0))) xNil)) (.nm 5) (xSeq (xSet 6 (xLc (xiN xEnum (xCons (xVar 2) xNil)) (.tp [(.nm 7), (.nm 4)]) (xCmp xoNe (xBin xoIx (xBor 4) (xBor 5)) (xC (.int 0))) (xVar 7) [7, 4])) (xSeq (xsIf (xCmp xoEq (xBor 6) (xLst xNil)) (xSeq xCnt xsNil) xsNil) (xSeq (xPar [8, 9, 3] (xpVal (xBin xoIx (xBor 2) (xBin xoIx (xBor 6) (xC (.int 0)))) (xpOwn (xLst xNil) (xpVal (xBin xoAdd (xBor 3) (xC (.int 1))) xpNil)))) (xSeq (xFor (xiOf (xBin xoCat (xSlL (xBor 2) xoNone (xoSome (xBin xoIx (xBor 6) (xC (.int 0))))) (xSlL (xBor 2) (xoSome (xBin xoAdd (xBin xoIx (xBor 6) (xC (.int 0))) (xC (.int 1)))) xoNone))) (.nm 4) (xSeq (xPar [10, 11] (xpVal (xBin xoIx (xBor 8) (xBor 5)) (xpVal (xBin xoIx (xBor 4) (xBor 5)) xpNil))) (xSeq (xApd 9 (xIf (xCmp xoEq (xBor 11) (xC (.int 0))) (xVar 4) (xLc (xiN xZip (xCons (xVar 8) (xCons (xVar 4) xNil))) (.tp [(.nm 12), (.nm 13)]) xYes (xBin xoMod (xFn xfInt (xCons (xBin xoSub (xBin xoMul (xBor 10) (xBor 13)) (xBin xoMul (xBor 11) (xBor 12))) xNil)) (xBor 1)) [12, 13]))) xsNil))) (xSeq (xSeq (xFrz 9) (xSet 2 (xVar 9))) (xSeq (xsIf (xCmp xoEq (xBor 2) (xLst xNil)) (xSeq xBrk xsNil) xsNil) xsNil))))))) (xSeq (xRet (xVar 3)) xsNil)))
theorem sim_law_rank : SimF (S := S) f_law_rank x_law_rank := s_def fun ex => (s_seq (s_par rfl (s_pval (s_bin s_add (s_bin s_pow (s_c (.int 10)) (s_c (.int 30))) (s_c (.int 386001))) (s_pval (s_lc (s_iof (s_var 0)) s_yes (s_fn s_listA (s_cons (s_bor 4) s_nil))) (s_pval (s_c (.int 0)) s_pnil)))) (s_seq (s_for (s_rng (s_cons (s_if (s_cmp s_ne (s_bor 2) (s_lst s_nil)) (s_fn s_len (s_cons (s_bin s_ix (s_bor 2) (s_c (.int 0))) s_nil)) (s_c (.int 0))) s_nil)) (s_seq (s_set (s_lc (s_enum (s_cons (s_var 2) s_nil)) (s_cmp s_ne (s_bin s_ix (s_bor 4) (s_bor 5)) (s_c (.int 0))) (s_var 7))) (s_seq (s_sif (s_cmp s_eq (s_bor 6) (s_lst s_nil)) (s_seq s_cnt s_snil) s_snil) (s_seq (s_par rfl (s_pval (s_bin s_ix (s_bor 2) (s_bin s_ix (s_bor 6) (s_c (.int 0)))) (s_pown (s_lst s_nil) (s_pval (s_bin s_add (s_bor 3) (s_c (.int 1))) s_pnil)))) (s_seq (s_for (s_iof (s_bin s_cat (s_slL (s_bor 2) s_onone (s_osome (s_bin s_ix (s_bor 6) (s_c (.int 0))))) (s_slL (s_bor 2) (s_osome (s_bin s_add (s_bin s_ix (s_bor 6) (s_c (.int 0))) (s_c (.int 1)))) s_onone))) (s_seq (s_par rfl (s_pval (s_bin s_ix (s_bor 8) (s_bor 5)) (s_pval (s_bin s_ix (s_bor 4) (s_bor 5)) s_pnil))) (s_seq (s_apd (s_if (s_cmp s_eq (s_bor 11) (s_c (.int 0))) (s_var 4) (s_lc (s_zip (s_cons (s_var 8) (s_cons (s_var 4) s_nil))) s_yes (s_bin s_mod (s_fn s_int (s_cons (s_bin s_sub (s_bin s_mul (s_bor 10) (s_bor 13)) (s_bin s_mul (s_bor 11) (s_bor 12))) s_nil)) (s_bor 1))))) s_snil))) (s_seq (s_seq (s_frz) (s_set (s_var 9))) (s_seq (s_sif (s_cmp s_eq (s_bor 2) (s_lst s_nil)) (s_seq s_brk s_snil) s_snil) s_snil))))))) (s_seq (s_ret (s_var 3)) s_snil)))

def x_law_least : List D → Option D := xDef 6 (xSeq (xOwn 2 (xLst xNil)) (xSeq (xFor (xiN xRng (xCons (xC (.int 1)) (xCons (xBin xoAdd (xBor 0) (xC (.int 1))) xNil))) (.nm 3) (xSeq (xFor (xiOf (xTup (xCons (xC (.int 2)) (xCons (xC (.int 3)) (xCons (xC (.int 5)) (xCons (xC (.int 7)) (xCons (xC (.int 11)) (xCons (xC (.int 13)) (xCons (xC (.int 17)) (xCons (xC (.int 19)) (xCons (xC (.int 23)) (xCons (xC (.int 29)) (xCons (xC (.int 31)) (xCons (xC (.int 37)) (xCons (xC (.int 41)) (xCons (xC (.int 43)) (xCons (xC (.int 47)) (xCons (xC (.int 53)) (xCons (xC (.int 59)) xNil))))))))))))))))))) (.nm 4) (xSeq (xsIf (xCmp xoEq (xBin xoMod (xFn xfInt (xCons (xBor 0) xNil)) (xBin xoMul (xBor 3) (xBor 4))) (xC (.int 0))) (xSeq (xExt 2 (xLc (xiN xRng (xCons (xC (.int 1)) (xCons (xBin xoAdd (xBor 4) (xC (.int 1))) xNil))) (.nm 5) (xCmp xoLe (xBin xoMul (xBor 3) (xBor 5)) (xBor 1)) (xBin xoMul (xBin xoDiv (xBor 0) (xBin xoMul (xBor 3) (xBor 4))) (xBin xoSub (xBin xoAdd (xBor 4) (xC (.int 1))) (xBor 5))) [5])) xsNil) xsNil) xsNil)) xsNil)) (xSeq (xRet (xFn xfMin1 (xCons (xBor 2) xNil))) xsNil)))
theorem sim_law_least : SimF (S := S) f_law_least x_law_least := s_def fun ex => (s_seq (s_own (s_lst s_nil)) (s_seq (s_for (s_rng (s_cons (s_c (.int 1)) (s_cons (s_bin s_add (s_bor 0) (s_c (.int 1))) s_nil))) (s_seq (s_for (s_iof (s_tup (s_cons (s_c (.int 2)) (s_cons (s_c (.int 3)) (s_cons (s_c (.int 5)) (s_cons (s_c (.int 7)) (s_cons (s_c (.int 11)) (s_cons (s_c (.int 13)) (s_cons (s_c (.int 17)) (s_cons (s_c (.int 19)) (s_cons (s_c (.int 23)) (s_cons (s_c (.int 29)) (s_cons (s_c (.int 31)) (s_cons (s_c (.int 37)) (s_cons (s_c (.int 41)) (s_cons (s_c (.int 43)) (s_cons (s_c (.int 47)) (s_cons (s_c (.int 53)) (s_cons (s_c (.int 59)) s_nil))))))))))))))))))) (s_seq (s_sif (s_cmp s_eq (s_bin s_mod (s_fn s_int (s_cons (s_bor 0) s_nil)) (s_bin s_mul (s_bor 3) (s_bor 4))) (s_c (.int 0))) (s_seq (s_ext (s_lc (s_rng (s_cons (s_c (.int 1)) (s_cons (s_bin s_add (s_bor 4) (s_c (.int 1))) s_nil))) (s_cmp s_le (s_bin s_mul (s_bor 3) (s_bor 5)) (s_bor 1)) (s_bin s_mul (s_bin s_div (s_bor 0) (s_bin s_mul (s_bor 3) (s_bor 4))) (s_bin s_sub (s_bin s_add (s_bor 4) (s_c (.int 1))) (s_bor 5))))) s_snil) s_snil) s_snil)) s_snil)) (s_seq (s_ret (s_fn s_min1 (s_cons (s_bor 2) s_nil))) s_snil)))

def x_law_lots_of : List D → Option D := xDef 8 (xSeq (xSet 2 (xLst (xCons (xTup xNil) xNil))) (xSeq (xFor (xiN xRng (xCons (xVar 1) xNil)) (.nm 3) (xSeq (xOwn 4 (xLst xNil)) (xSeq (xFor (xiOf (xVar 2)) (.nm 5) (xSeq (xSet 6 (xIf (xCmp xoNe (xBor 5) (xTup xNil)) (xBin xoAdd (xMeL xoIdx (xBor 0) (xBin xoIx (xBor 5) (xUn xoNeg (xC (.int 1))))) (xC (.int 1))) (xC (.int 0)))) (xSeq (xExt 4 (xLc (xiOf (xSlL (xBor 0) (xoSome (xBor 6)) xoNone)) (.nm 7) xYes (xBin xoAdd (xBor 5) (xTup (xCons (xVar 7) xNil))) [7])) xsNil))) (xSeq (xSeq (xFrz 4) (xSet 2 (xVar 4))) xsNil)))) (xSeq (xRet (xVar 2)) xsNil)))
theorem sim_law_lots_of : SimF (S := S) f_law_lots_of x_law_lots_of := s_def fun ex => (s_seq (s_set (s_lst (s_cons (s_tup s_nil) s_nil))) (s_seq (s_for (s_rng (s_cons (s_var 1) s_nil)) (s_seq (s_own (s_lst s_nil)) (s_seq (s_for (s_iof (s_var 2)) (s_seq (s_set (s_if (s_cmp s_ne (s_bor 5) (s_tup s_nil)) (s_bin s_add (s_meL s_idx (s_bor 0) (s_bin s_ix (s_bor 5) (s_un s_neg (s_c (.int 1))))) (s_c (.int 1))) (s_c (.int 0)))) (s_seq (s_ext (s_lc (s_iof (s_slL (s_bor 0) (s_osome (s_bor 6)) s_onone)) s_yes (s_bin s_add (s_bor 5) (s_tup (s_cons (s_var 7) s_nil))))) s_snil))) (s_seq (s_seq (s_frz) (s_set (s_var 4))) s_snil)))) (s_seq (s_ret (s_var 2)) s_snil)))

def x_law_tells : List D → Option D := xDef 11 (xSeq (xPar [4, 5] (xpVal (xFn xfMin2 (xCons (xBin xoMul (xC (.int 2)) (xBor 2)) (xCons (xBin xoDget (xBor 0) (xC (.str "n"))) xNil))) (xpVal (xFn xfMin2 (xCons (xBin xoMul (xC (.int 2)) (xBor 3)) (xCons (xFn xfLen (xCons (xBor 1) xNil)) xNil))) xpNil))) (xSeq (xsIf (xCmp xoLt (xBin xoSub (xFn xfLen (xCons (xBor 1) xNil)) (xBor 5)) (xBor 4)) (xSeq (xRet (xC (.bl false))) xsNil) xsNil) (xSeq (xPar [6, 7] (xpVal (xBin xoIx (xBin xoDget (xBor 0) (xC (.str "places"))) (xC (.int 0))) (xpVal (xFn x_law_lots_of (xCons (xFn xfListA (xCons (xBor 1) xNil)) (xCons (xBin xoSub (xFn xfLen (xCons (xBor 1) xNil)) (xBor 5)) xNil))) xpNil))) (xSeq (xFor (xiOf (xFn x_law_lots_of (xCons (xSlL (xBin xoDget (xBor 0) (xC (.str "places"))) (xoSome (xC (.int 1))) xoNone) (xCons (xBin xoSub (xBor 4) (xC (.int 1))) xNil)))) (.nm 8) (xSeq (xSet 9 (xBin xoAdd (xTup (xCons (xVar 6) xNil)) (xBor 8))) (xSeq (xFor (xiOf (xVar 7)) (.nm 10) (xSeq (xsIf (xCmp xoLt (xFn x_law_rank (xCons (xFn x_law_lines (xCons (xVar 0) (xCons (xVar 9) (xCons (xVar 10) xNil)))) xNil)) (xBor 4)) (xSeq (xRet (xC (.bl false))) xsNil) xsNil) xsNil)) xsNil))) (xSeq (xRet (xC (.bl true))) xsNil)))))
theorem sim_law_tells : SimF (S := S) f_law_tells x_law_tells := s_def fun ex => (s_seq (s_par rfl (s_pval (s_fn s_min2 (s_cons (s_bin s_mul (s_c (.int 2)) (s_bor 2)) (s_cons (s_bin s_dget (s_bor 0) (s_c (.str "n"))) s_nil))) (s_pval (s_fn s_min2 (s_cons (s_bin s_mul (s_c (.int 2)) (s_bor 3)) (s_cons (s_fn s_len (s_cons (s_bor 1) s_nil)) s_nil))) s_pnil))) (s_seq (s_sif (s_cmp s_lt (s_bin s_sub (s_fn s_len (s_cons (s_bor 1) s_nil)) (s_bor 5)) (s_bor 4)) (s_seq (s_ret (s_c (.bl false))) s_snil) s_snil) (s_seq (s_par rfl (s_pval (s_bin s_ix (s_bin s_dget (s_bor 0) (s_c (.str "places"))) (s_c (.int 0))) (s_pval (s_call sim_law_lots_of (s_cons (s_fn s_listA (s_cons (s_bor 1) s_nil)) (s_cons (s_bin s_sub (s_fn s_len (s_cons (s_bor 1) s_nil)) (s_bor 5)) s_nil))) s_pnil))) (s_seq (s_for (s_iof (s_call sim_law_lots_of (s_cons (s_slL (s_bin s_dget (s_bor 0) (s_c (.str "places"))) (s_osome (s_c (.int 1))) s_onone) (s_cons (s_bin s_sub (s_bor 4) (s_c (.int 1))) s_nil)))) (s_seq (s_set (s_bin s_add (s_tup (s_cons (s_var 6) s_nil)) (s_bor 8))) (s_seq (s_for (s_iof (s_var 7)) (s_seq (s_sif (s_cmp s_lt (s_call sim_law_rank (s_cons (s_call sim_law_lines (s_cons (s_var 0) (s_cons (s_var 9) (s_cons (s_var 10) s_nil)))) s_nil)) (s_bor 4)) (s_seq (s_ret (s_c (.bl false))) s_snil) s_snil) s_snil)) s_snil))) (s_seq (s_ret (s_c (.bl true))) s_snil)))))

def x_law_sure : List D → Option D := xDef 4 (xSeq (xSet 3 (xBin xoAdd (xBin xoSub (xBin xoAdd (xBor 0) (xC (.int 1))) (xFn x_law_least (xCons (xVar 0) (xCons (xFn xfMin2 (xCons (xBin xoMul (xC (.int 2)) (xBor 1)) (xCons (xBor 0) xNil))) xNil)))) (xBin xoMul (xC (.int 2)) (xBor 2)))) (xSeq (xRet (xIf (xCmp xoLe (xBor 3) (xBor 0)) (xVar 3) (xC .non))) xsNil))
theorem sim_law_sure : SimF (S := S) f_law_sure x_law_sure := s_def fun ex => (s_seq (s_set (s_bin s_add (s_bin s_sub (s_bin s_add (s_bor 0) (s_c (.int 1))) (s_call sim_law_least (s_cons (s_var 0) (s_cons (s_fn s_min2 (s_cons (s_bin s_mul (s_c (.int 2)) (s_bor 1)) (s_cons (s_bor 0) s_nil))) s_nil)))) (s_bin s_mul (s_c (.int 2)) (s_bor 2)))) (s_seq (s_ret (s_if (s_cmp s_le (s_bor 3) (s_bor 0)) (s_var 3) (s_c .non))) s_snil))

end K31

end
section
set_option autoImplicit false
set_option linter.all false
set_option maxRecDepth 1000000
set_option maxHeartbeats 0
namespace K31
open PySem L2 DL PyProof.Rows
abbrev Dk (s : Hp) (a : Addr) : Prop := IsDeck "cells" "mixed" "turn" s a
theorem at_is {xs : List D} {r : Int} {k : D → Prop} (h0 : 0 ≤ r) (h1 : r < xs.length) (h : k (xs.getD r.toNat .non)) : atD xs r k := by
  have hr : r.toNat < xs.length := by omega
  have e : xAt xs r = some (xs.getD r.toNat .non) := by
    unfold xAt
    have q : DL.ixN xs.length r = some r.toNat := by unfold DL.ixN; rw [if_pos h0, if_pos h1]
    rw [q, List.getD_eq_getElem?_getD, List.getElem?_eq_getElem hr]
    show xs[r.toNat]? = _
    rw [List.getElem?_eq_getElem hr]
    rfl
  exact atD_sim e h
theorem getD_mem {xs : List D} {i : Nat} (h : i < xs.length) : xs.getD i .non ∈ xs := by
  rw [List.getD_eq_getElem?_getD, List.getElem?_eq_getElem h]
  exact List.getElem_mem h
theorem pick_ok {s : Hp} {a : Addr} {xs : List D} {Q ex : D → Hp → Prop} (hd : Dk s a) (hl : 0 < xs.length) (hl2 : xs.length < 1000) (h : ∀ x ∈ xs, ∀ s', Dk s' a → Q x s') : f_law_pick E0 [.obj a, .lst xs] s Q ex := by
  show Dk s a ∧ (0 : Int) < xs.length ∧ (xs.length : Int) < 2 ^ 64 ∧ ∀ r s', 0 ≤ r → r < (xs.length : Int) → Dk s' a → atD xs r (fun z => Q z s')
  exact ⟨hd, by omega, by omega, fun r s' h0 h1 hd' => at_is h0 h1 (h _ (getD_mem (by omega)) s' hd')⟩
/-! ### shuffled -/
theorem erase_perm : ∀ (l : List D) (i : Nat) (h : i < l.length), (l[i] :: l.eraseIdx i).Perm l
  | x :: l, 0, _ => List.Perm.refl _
  | x :: l, i + 1, h => by
    have := erase_perm l i (by simpa using h)
    exact (List.Perm.swap x (l[i]'(by simpa using h)) _).trans (this.cons x)
theorem shuf_loop {a : Addr} {xs : List D} {ex : D → Hp → Prop} {K : KE Hp} (hl : xs.length ≤ 1000) (hK : ∀ found go s', found.Perm xs → Dk s' a → K.nx [.val (.obj a), .val (.lst xs), .own (.lst []), .own (.lst found), go] s') :
    ∀ (n : Nat) (lo : Int) (left found : List D) (go : Sl) (s : Hp), left.length = n → (found ++ left).Perm xs → Dk s a →
      forD (.nm 4) (sSeq (sAppPop 3 2 (eCall E0.draw ex (aCons (eVar 0) (aCons (eFn fnLen (aCons (eBor 2) aNil)) aNil)))) sNil) K (DL.intsFrom lo n) [.val (.obj a), .val (.lst xs), .own (.lst left), .own (.lst found), go] s
  | 0, lo, left, found, go, s, h0, hp, hd => by
    have e : left = [] := List.eq_nil_of_length_eq_zero h0
    subst e
    rw [List.append_nil] at hp
    exact hK found go s hp hd
  | n + 1, lo, left, found, go, s, h0, hp, hd => by
    have hlen := hp.length_eq
    rw [List.length_append] at hlen
    show Dk s a ∧ (0 : Int) < left.length ∧ (left.length : Int) < 2 ^ 64 ∧ ∀ r s', 0 ≤ r → r < (left.length : Int) → Dk s' a → _
    refine ⟨hd, by omega, by omega, fun r s' r0 r1 hd' => ?_⟩
    have q : DL.ixN left.length r = some r.toNat := by unfold DL.ixN; rw [if_pos r0, if_pos r1]
    have hr : r.toNat < left.length := by omega
    simp only [q, List.getElem?_eq_getElem hr]
    refine ⟨by unfold line; omega, by unfold line; omega, ?_⟩
    refine shuf_loop hl hK n (lo + 1) (left.eraseIdx r.toNat) (found ++ [left[r.toNat]]) _ s' (by rw [List.length_eraseIdx_of_lt hr]; omega) ?_ hd'
    rw [List.append_assoc]
    exact (List.Perm.append_left found (erase_perm left r.toNat hr)).trans hp
theorem shuf_ok {s : Hp} {a : Addr} {xs : List D} {Q ex : D → Hp → Prop} (hd : Dk s a) (hl : xs.length ≤ 1000) (h : ∀ ys, ys.Perm xs → ∀ s', Dk s' a → Q (.lst ys) s') : f_law_shuffled E0 [.obj a, .lst xs] s Q ex := by
  refine And.intro (by decide) (And.intro (by omega) (And.intro (by omega) ?_))
  refine shuf_loop hl (fun found go s' hp hd' => ?_) _ 0 xs [] _ s (by simp) (List.Perm.refl _) hd
  exact h found hp s' hd'
/-! ### some of -/
theorem sl_map {α β : Type} (f : α → β) : ∀ (l : List α), l.map f = l.map f := fun _ => rfl
theorem lc_pure {p : Pat} {e : TE Hp} {env : DL.Env} {Q : List D → Hp → Prop} {s : Hp} {g : D → D} : ∀ (ds : List D) (acc : List D), (∀ d ∈ ds, ∃ env', p.put d env = some env' ∧ ∀ (s : Hp) (Q : D → Hp → Prop), Q (g d) s → e env' s Q) → acc.length + ds.length ≤ line → Q (acc ++ ds.map g) s →
    lcD p tYes e env Q ds acc s
  | [], acc, _, _, h => by simpa [lcD] using h
  | d :: ds, acc, hp, hl, h => by
    obtain ⟨env', e1, e2⟩ := hp d List.mem_cons_self
    rw [List.length_cons] at hl
    unfold lcD
    rw [e1]
    simp only [DL.tYes, if_true]
    refine e2 _ _ ⟨by omega, lc_pure ds (acc ++ [g d]) (fun x hx => hp x (List.mem_cons_of_mem _ hx)) (by rw [List.length_append]; simp only [List.length_cons, List.length_nil]; omega) ?_⟩
    rw [List.append_assoc]
    exact h
/-- the items of xs at rising places -/
theorem combs_mem : ∀ (xs : List D) (off : Int) (js : List Int), js.Pairwise (· < ·) → (∀ j ∈ js, off ≤ j ∧ j < off + xs.length) → js.map (fun j => xs.getD (j - off).toNat .non) ∈ combs js.length xs
  | [], off, js, _, hb => by
    cases js with
    | nil => simp [combs]
    | cons j js =>
      have := hb j List.mem_cons_self
      simp only [List.length_nil] at this
      omega
  | x :: xs, off, js, hs, hb => by
    cases js with
    | nil => simp [combs]
    | cons j js =>
      obtain ⟨h1, h2⟩ := List.pairwise_cons.mp hs
      have hj := hb j List.mem_cons_self
      have later : ∀ k, off + 1 ≤ k → (x :: xs).getD (k - off).toNat .non = xs.getD (k - (off + 1)).toNat .non := fun k hk => by
        have e : (k - off).toNat = (k - (off + 1)).toNat + 1 := by omega
        rw [e, List.getD_cons_succ]
      have hl : (off : Int) + (x :: xs).length = off + 1 + xs.length := by rw [List.length_cons]; omega
      rw [List.length_cons]
      unfold combs
      by_cases e : j = off
      · refine List.mem_append_left _ (List.mem_map.mpr ⟨_, combs_mem xs (off + 1) js h2 (fun k hk => ?_), ?_⟩)
        · have a := hb k (List.mem_cons_of_mem _ hk)
          have b := h1 k hk
          omega
        · subst e
          rw [List.map_cons, Int.sub_self]
          congr 1
          refine List.map_congr_left fun k hk => (later k ?_).symm
          have b := h1 k hk
          omega
      · refine List.mem_append_right _ ?_
        have all : ∀ k ∈ j :: js, off + 1 ≤ k ∧ k < off + 1 + xs.length := fun k hk => by
          have a := hb k hk
          rcases List.mem_cons.mp hk with z | z
          · subst z; omega
          · have b := h1 k z; omega
        have := combs_mem xs (off + 1) (j :: js) hs all
        rw [List.length_cons] at this
        have e2 : (j :: js).map (fun k => (x :: xs).getD (k - off).toNat .non) = (j :: js).map (fun k => xs.getD (k - (off + 1)).toNat .non) := List.map_congr_left fun k hk => later k (all k hk).1
        rw [e2]
        exact this
theorem intsFrom_ints : ∀ (n : Nat) (lo : Int), ∃ is : List Int, DL.intsFrom lo n = is.map .int ∧ is.Nodup ∧ (∀ i ∈ is, lo ≤ i ∧ i < lo + n) ∧ is.length = n
  | 0, lo => ⟨[], rfl, List.nodup_nil, fun i h => by simp at h, rfl⟩
  | n + 1, lo => by
    obtain ⟨is, e, nd, hb, hl⟩ := intsFrom_ints n (lo + 1)
    refine ⟨lo :: is, by rw [DL.intsFrom, e]; rfl, List.nodup_cons.mpr ⟨fun h => ?_, nd⟩, fun i h => ?_, by simp [hl]⟩
    · have := hb lo h; omega
    · rcases List.mem_cons.mp h with e | e
      · subst e; omega
      · have := hb i e; omega
theorem sort_strict {l : List Int} (nd : l.Nodup) : (sortI l).Pairwise (· < ·) := by
  have h1 := sortI_srt l
  have h2 : (sortI l).Nodup := (sortI_perm l).nodup_iff.mpr nd
  exact (h1.and h2).imp fun ⟨a, b⟩ => by omega
theorem some_ok {s : Hp} {a : Addr} {xs : List D} {m : Int} {Q ex : D → Hp → Prop} (hd : Dk s a) (hl : xs.length ≤ 1000) (hm0 : 0 ≤ m) (hm1 : m ≤ xs.length) (h : ∀ zs ∈ combs m.toNat xs, ∀ s', Dk s' a → Q (.lst zs) s') :
    f_law_some_of E0 [.obj a, .lst xs, .int m] s Q ex := by
  obtain ⟨is, e1, nd, hb, hlen⟩ := intsFrom_ints xs.length 0
  refine And.intro (by omega) (And.intro (by omega) (And.intro (by rw [intsFrom_length]; unfold line; omega) ?_))
  show f_law_shuffled E0 [.obj a, .lst (DL.intsFrom 0 (xs.length : Int).toNat)] s _ ex
  rw [Int.toNat_natCast, e1]
  refine shuf_ok hd (by rw [List.length_map, hlen]; exact hl) fun ys hp s' hd' => ?_
  obtain ⟨js, rfl, hp2⟩ := perm_map_inv hp
  have hcut : DL.cutD (js.map D.int) none (some m) = (js.take m.toNat).map .int := by
    have l1 : (js.map D.int).length = xs.length := by rw [List.length_map, hp2.length_eq, hlen]
    unfold DL.cutD
    rw [l1]
    show ((js.map D.int).drop 0).take ((if m < 0 then (m + (xs.length : Int)).toNat else min m.toNat xs.length) - 0) = _
    rw [if_neg (by omega), List.drop_zero, Nat.sub_zero, Nat.min_eq_left (by omega), List.map_take]
  have step : ∀ k : D → Prop, k (.lst ((sortI (js.take m.toNat)).map .int)) → fnSorted [.lst (DL.cutD (js.map D.int) none (some m))] k := fun k hk => by
    rw [hcut]
    have hi := intsOf_map (js.take m.toNat)
    unfold fnSorted
    simp only [hi]
    exact hk
  generalize fnSorted = G at step ⊢
  refine step _ ?_
  have nd2 : (js.take m.toNat).Nodup := (hp2.nodup_iff.mpr nd).sublist (List.take_sublist _ _)
  have hmem : ∀ j ∈ sortI (js.take m.toNat), 0 ≤ j ∧ j < 0 + (xs.length : Int) := fun j hj => hb j (hp2.mem_iff.mp (List.mem_of_mem_take ((sortI_perm _).mem_iff.mp hj)))
  have hlen2 : (sortI (js.take m.toNat)).length = m.toNat := by
    rw [(sortI_perm _).length_eq, List.length_take, hp2.length_eq, hlen]
    omega
  refine lc_pure (g := fun d => match d with | .int i => xs.getD i.toNat .non | _ => .non) _ [] (fun d hd2 => ?_) ?_ ?_
  · obtain ⟨j, hj, rfl⟩ := List.mem_map.mp hd2
    obtain ⟨j0, j1⟩ := hmem j hj
    exact ⟨_, rfl, fun s Q hq => at_is j0 (by omega) hq⟩
  · rw [List.length_map, hlen2]
    simp only [List.length_nil]
    unfold line
    omega
  · rw [List.nil_append, List.map_map]
    have key := combs_mem xs 0 _ (sort_strict nd2) hmem
    rw [hlen2] at key
    have e3 : (sortI (js.take m.toNat)).map ((fun d => match d with | .int i => xs.getD i.toNat .non | _ => .non) ∘ D.int) = (sortI (js.take m.toNat)).map (fun j => xs.getD (j - 0).toNat .non) := List.map_congr_left fun j _ => by
      show xs.getD j.toNat .non = _
      rw [Int.sub_zero]
    rw [e3]
    exact h _ key s' hd'
end K31

end
section
set_option autoImplicit false
set_option linter.all false
set_option maxRecDepth 1000000
set_option maxHeartbeats 0
namespace K31
open DL
def look (t : List (Int × List (Int × Int))) : List D → Option D
  | [.int n, .int j] => match t.find? (fun r => decide (r.1 = n)) with
    | some r => match r.2.find? (fun q => decide (q.1 = j)) with
      | some q => some (.int q.2)
      | none => none
    | none => none
  | _ => none
theorem look_ok {x : List D → Option D} {t : List (Int × List (Int × Int))} (h : ∀ r ∈ t, ∀ q ∈ r.2, x [.int r.1, .int q.1] = some (.int q.2)) : ∀ ds d, look t ds = some d → x ds = some d := by
  intro ds d e
  unfold look at e
  split at e
  · rename_i n j
    split at e
    · rename_i r er
      split at e
      · rename_i q eq
        cases e
        have k1 : r.1 = n := by simpa using List.find?_some er
        have k2 : q.1 = j := by simpa using List.find?_some eq
        have z := h r (List.mem_of_find?_eq_some er) q (List.mem_of_find?_eq_some eq)
        subst k1 k2
        exact z
      · cases e
    · cases e
  · cases e
def tb_2 : List (Int × Int) := [(2, 1)]
def tb_3 : List (Int × Int) := [(2, 2), (3, 1)]
def tb_4 : List (Int × Int) := [(2, 2), (4, 1)]
def tb_5 : List (Int × Int) := [(2, 4), (4, 2), (5, 1)]
def tb_6 : List (Int × Int) := [(2, 3), (4, 2), (6, 1)]
def tb_7 : List (Int × Int) := [(2, 6), (4, 4), (6, 2), (7, 1)]
def tb_8 : List (Int × Int) := [(2, 4), (4, 2), (6, 2), (8, 1)]
def tb_9 : List (Int × Int) := [(2, 6), (4, 3), (6, 2), (8, 2), (9, 1)]
def tb_12 : List (Int × Int) := [(2, 6), (4, 3), (6, 2), (8, 2), (10, 2), (12, 1)]
def tb_13 : List (Int × Int) := [(2, 12), (4, 10), (6, 8), (8, 6), (10, 4), (12, 2), (13, 1)]
def tb_30 : List (Int × Int) := [(2, 15), (4, 10), (6, 5), (8, 5), (10, 3), (12, 3), (14, 3), (16, 2), (18, 2), (20, 2), (22, 2), (24, 2), (26, 2), (28, 2), (30, 1)]
def tb_36 : List (Int × Int) := [(2, 18), (4, 9), (6, 6), (8, 6), (10, 4), (12, 3), (14, 3), (16, 3), (18, 2), (20, 2), (22, 2), (24, 2), (26, 2), (28, 2), (30, 2), (32, 2), (34, 2), (36, 1)]
def tb_50 : List (Int × Int) := [(2, 25), (4, 20), (6, 10), (8, 10), (10, 5), (12, 5), (14, 5), (16, 5), (18, 5), (20, 4), (22, 4), (24, 4), (26, 2), (28, 2), (30, 2), (32, 2), (34, 2), (36, 2), (38, 2), (40, 2), (42, 2), (44, 2), (46, 2), (48, 2), (50, 1)]
def tb_59 : List (Int × Int) := [(2, 58), (4, 56), (6, 54), (8, 52), (10, 50), (12, 48), (14, 46), (16, 44), (18, 42), (20, 40), (22, 38), (24, 36), (26, 34), (28, 32), (30, 30), (32, 28), (34, 26), (36, 24), (38, 22), (40, 20), (42, 18), (44, 16), (46, 14), (48, 12), (50, 10), (52, 8), (54, 6), (56, 4), (58, 2), (59, 1)]
def tb_60 : List (Int × Int) := [(2, 30), (4, 15), (6, 10), (8, 10), (10, 6), (12, 5), (14, 5), (16, 4), (18, 4), (20, 3), (22, 3), (24, 3), (26, 3), (28, 3), (30, 2), (32, 2), (34, 2), (36, 2), (38, 2), (40, 2), (42, 2), (44, 2), (46, 2), (48, 2), (50, 2), (52, 2), (54, 2), (56, 2), (58, 2), (60, 1)]
def tab : List (Int × List (Int × Int)) := [(2, tb_2), (3, tb_3), (4, tb_4), (5, tb_5), (6, tb_6), (7, tb_7), (8, tb_8), (9, tb_9), (12, tb_12), (13, tb_13), (30, tb_30), (36, tb_36), (50, tb_50), (59, tb_59), (60, tb_60)]
theorem tp_2_2 : x_least_voices [.int 2, .int 2] = some (.int 1) := by kernel_rfl
theorem tp_2 : ∀ q ∈ tb_2, x_least_voices [.int 2, .int q.1] = some (.int q.2) := by
  intro q hq
  simp only [tb_2, List.mem_cons, List.not_mem_nil, or_false] at hq
  rcases hq with rfl
  · exact tp_2_2
theorem tl_2_2 : x_law_least [.int 2, .int 2] = some (.int 1) := by kernel_rfl
theorem tl_2 : ∀ q ∈ tb_2, x_law_least [.int 2, .int q.1] = some (.int q.2) := by
  intro q hq
  simp only [tb_2, List.mem_cons, List.not_mem_nil, or_false] at hq
  rcases hq with rfl
  · exact tl_2_2
theorem tp_3_2 : x_least_voices [.int 3, .int 2] = some (.int 2) := by kernel_rfl
theorem tp_3_3 : x_least_voices [.int 3, .int 3] = some (.int 1) := by kernel_rfl
theorem tp_3 : ∀ q ∈ tb_3, x_least_voices [.int 3, .int q.1] = some (.int q.2) := by
  intro q hq
  simp only [tb_3, List.mem_cons, List.not_mem_nil, or_false] at hq
  rcases hq with rfl | rfl
  · exact tp_3_2
  · exact tp_3_3
theorem tl_3_2 : x_law_least [.int 3, .int 2] = some (.int 2) := by kernel_rfl
theorem tl_3_3 : x_law_least [.int 3, .int 3] = some (.int 1) := by kernel_rfl
theorem tl_3 : ∀ q ∈ tb_3, x_law_least [.int 3, .int q.1] = some (.int q.2) := by
  intro q hq
  simp only [tb_3, List.mem_cons, List.not_mem_nil, or_false] at hq
  rcases hq with rfl | rfl
  · exact tl_3_2
  · exact tl_3_3
theorem tp_4_2 : x_least_voices [.int 4, .int 2] = some (.int 2) := by kernel_rfl
theorem tp_4_4 : x_least_voices [.int 4, .int 4] = some (.int 1) := by kernel_rfl
theorem tp_4 : ∀ q ∈ tb_4, x_least_voices [.int 4, .int q.1] = some (.int q.2) := by
  intro q hq
  simp only [tb_4, List.mem_cons, List.not_mem_nil, or_false] at hq
  rcases hq with rfl | rfl
  · exact tp_4_2
  · exact tp_4_4
theorem tl_4_2 : x_law_least [.int 4, .int 2] = some (.int 2) := by kernel_rfl
theorem tl_4_4 : x_law_least [.int 4, .int 4] = some (.int 1) := by kernel_rfl
theorem tl_4 : ∀ q ∈ tb_4, x_law_least [.int 4, .int q.1] = some (.int q.2) := by
  intro q hq
  simp only [tb_4, List.mem_cons, List.not_mem_nil, or_false] at hq
  rcases hq with rfl | rfl
  · exact tl_4_2
  · exact tl_4_4
theorem tp_5_2 : x_least_voices [.int 5, .int 2] = some (.int 4) := by kernel_rfl
theorem tp_5_4 : x_least_voices [.int 5, .int 4] = some (.int 2) := by kernel_rfl
theorem tp_5_5 : x_least_voices [.int 5, .int 5] = some (.int 1) := by kernel_rfl
theorem tp_5 : ∀ q ∈ tb_5, x_least_voices [.int 5, .int q.1] = some (.int q.2) := by
  intro q hq
  simp only [tb_5, List.mem_cons, List.not_mem_nil, or_false] at hq
  rcases hq with rfl | rfl | rfl
  · exact tp_5_2
  · exact tp_5_4
  · exact tp_5_5
theorem tl_5_2 : x_law_least [.int 5, .int 2] = some (.int 4) := by kernel_rfl
theorem tl_5_4 : x_law_least [.int 5, .int 4] = some (.int 2) := by kernel_rfl
theorem tl_5_5 : x_law_least [.int 5, .int 5] = some (.int 1) := by kernel_rfl
theorem tl_5 : ∀ q ∈ tb_5, x_law_least [.int 5, .int q.1] = some (.int q.2) := by
  intro q hq
  simp only [tb_5, List.mem_cons, List.not_mem_nil, or_false] at hq
  rcases hq with rfl | rfl | rfl
  · exact tl_5_2
  · exact tl_5_4
  · exact tl_5_5
theorem tp_6_2 : x_least_voices [.int 6, .int 2] = some (.int 3) := by kernel_rfl
theorem tp_6_4 : x_least_voices [.int 6, .int 4] = some (.int 2) := by kernel_rfl
theorem tp_6_6 : x_least_voices [.int 6, .int 6] = some (.int 1) := by kernel_rfl
theorem tp_6 : ∀ q ∈ tb_6, x_least_voices [.int 6, .int q.1] = some (.int q.2) := by
  intro q hq
  simp only [tb_6, List.mem_cons, List.not_mem_nil, or_false] at hq
  rcases hq with rfl | rfl | rfl
  · exact tp_6_2
  · exact tp_6_4
  · exact tp_6_6
theorem tl_6_2 : x_law_least [.int 6, .int 2] = some (.int 3) := by kernel_rfl
theorem tl_6_4 : x_law_least [.int 6, .int 4] = some (.int 2) := by kernel_rfl
theorem tl_6_6 : x_law_least [.int 6, .int 6] = some (.int 1) := by kernel_rfl
theorem tl_6 : ∀ q ∈ tb_6, x_law_least [.int 6, .int q.1] = some (.int q.2) := by
  intro q hq
  simp only [tb_6, List.mem_cons, List.not_mem_nil, or_false] at hq
  rcases hq with rfl | rfl | rfl
  · exact tl_6_2
  · exact tl_6_4
  · exact tl_6_6
theorem tp_7_2 : x_least_voices [.int 7, .int 2] = some (.int 6) := by kernel_rfl
theorem tp_7_4 : x_least_voices [.int 7, .int 4] = some (.int 4) := by kernel_rfl
theorem tp_7_6 : x_least_voices [.int 7, .int 6] = some (.int 2) := by kernel_rfl
theorem tp_7_7 : x_least_voices [.int 7, .int 7] = some (.int 1) := by kernel_rfl
theorem tp_7 : ∀ q ∈ tb_7, x_least_voices [.int 7, .int q.1] = some (.int q.2) := by
  intro q hq
  simp only [tb_7, List.mem_cons, List.not_mem_nil, or_false] at hq
  rcases hq with rfl | rfl | rfl | rfl
  · exact tp_7_2
  · exact tp_7_4
  · exact tp_7_6
  · exact tp_7_7
theorem tl_7_2 : x_law_least [.int 7, .int 2] = some (.int 6) := by kernel_rfl
theorem tl_7_4 : x_law_least [.int 7, .int 4] = some (.int 4) := by kernel_rfl
theorem tl_7_6 : x_law_least [.int 7, .int 6] = some (.int 2) := by kernel_rfl
theorem tl_7_7 : x_law_least [.int 7, .int 7] = some (.int 1) := by kernel_rfl
theorem tl_7 : ∀ q ∈ tb_7, x_law_least [.int 7, .int q.1] = some (.int q.2) := by
  intro q hq
  simp only [tb_7, List.mem_cons, List.not_mem_nil, or_false] at hq
  rcases hq with rfl | rfl | rfl | rfl
  · exact tl_7_2
  · exact tl_7_4
  · exact tl_7_6
  · exact tl_7_7
theorem tp_8_2 : x_least_voices [.int 8, .int 2] = some (.int 4) := by kernel_rfl
theorem tp_8_4 : x_least_voices [.int 8, .int 4] = some (.int 2) := by kernel_rfl
theorem tp_8_6 : x_least_voices [.int 8, .int 6] = some (.int 2) := by kernel_rfl
theorem tp_8_8 : x_least_voices [.int 8, .int 8] = some (.int 1) := by kernel_rfl
theorem tp_8 : ∀ q ∈ tb_8, x_least_voices [.int 8, .int q.1] = some (.int q.2) := by
  intro q hq
  simp only [tb_8, List.mem_cons, List.not_mem_nil, or_false] at hq
  rcases hq with rfl | rfl | rfl | rfl
  · exact tp_8_2
  · exact tp_8_4
  · exact tp_8_6
  · exact tp_8_8
theorem tl_8_2 : x_law_least [.int 8, .int 2] = some (.int 4) := by kernel_rfl
theorem tl_8_4 : x_law_least [.int 8, .int 4] = some (.int 2) := by kernel_rfl
theorem tl_8_6 : x_law_least [.int 8, .int 6] = some (.int 2) := by kernel_rfl
theorem tl_8_8 : x_law_least [.int 8, .int 8] = some (.int 1) := by kernel_rfl
theorem tl_8 : ∀ q ∈ tb_8, x_law_least [.int 8, .int q.1] = some (.int q.2) := by
  intro q hq
  simp only [tb_8, List.mem_cons, List.not_mem_nil, or_false] at hq
  rcases hq with rfl | rfl | rfl | rfl
  · exact tl_8_2
  · exact tl_8_4
  · exact tl_8_6
  · exact tl_8_8
theorem tp_9_2 : x_least_voices [.int 9, .int 2] = some (.int 6) := by kernel_rfl
theorem tp_9_4 : x_least_voices [.int 9, .int 4] = some (.int 3) := by kernel_rfl
theorem tp_9_6 : x_least_voices [.int 9, .int 6] = some (.int 2) := by kernel_rfl
theorem tp_9_8 : x_least_voices [.int 9, .int 8] = some (.int 2) := by kernel_rfl
theorem tp_9_9 : x_least_voices [.int 9, .int 9] = some (.int 1) := by kernel_rfl
theorem tp_9 : ∀ q ∈ tb_9, x_least_voices [.int 9, .int q.1] = some (.int q.2) := by
  intro q hq
  simp only [tb_9, List.mem_cons, List.not_mem_nil, or_false] at hq
  rcases hq with rfl | rfl | rfl | rfl | rfl
  · exact tp_9_2
  · exact tp_9_4
  · exact tp_9_6
  · exact tp_9_8
  · exact tp_9_9
theorem tl_9_2 : x_law_least [.int 9, .int 2] = some (.int 6) := by kernel_rfl
theorem tl_9_4 : x_law_least [.int 9, .int 4] = some (.int 3) := by kernel_rfl
theorem tl_9_6 : x_law_least [.int 9, .int 6] = some (.int 2) := by kernel_rfl
theorem tl_9_8 : x_law_least [.int 9, .int 8] = some (.int 2) := by kernel_rfl
theorem tl_9_9 : x_law_least [.int 9, .int 9] = some (.int 1) := by kernel_rfl
theorem tl_9 : ∀ q ∈ tb_9, x_law_least [.int 9, .int q.1] = some (.int q.2) := by
  intro q hq
  simp only [tb_9, List.mem_cons, List.not_mem_nil, or_false] at hq
  rcases hq with rfl | rfl | rfl | rfl | rfl
  · exact tl_9_2
  · exact tl_9_4
  · exact tl_9_6
  · exact tl_9_8
  · exact tl_9_9
theorem tp_12_2 : x_least_voices [.int 12, .int 2] = some (.int 6) := by kernel_rfl
theorem tp_12_4 : x_least_voices [.int 12, .int 4] = some (.int 3) := by kernel_rfl
theorem tp_12_6 : x_least_voices [.int 12, .int 6] = some (.int 2) := by kernel_rfl
theorem tp_12_8 : x_least_voices [.int 12, .int 8] = some (.int 2) := by kernel_rfl
theorem tp_12_10 : x_least_voices [.int 12, .int 10] = some (.int 2) := by kernel_rfl
theorem tp_12_12 : x_least_voices [.int 12, .int 12] = some (.int 1) := by kernel_rfl
theorem tp_12 : ∀ q ∈ tb_12, x_least_voices [.int 12, .int q.1] = some (.int q.2) := by
  intro q hq
  simp only [tb_12, List.mem_cons, List.not_mem_nil, or_false] at hq
  rcases hq with rfl | rfl | rfl | rfl | rfl | rfl
  · exact tp_12_2
  · exact tp_12_4
  · exact tp_12_6
  · exact tp_12_8
  · exact tp_12_10
  · exact tp_12_12
theorem tl_12_2 : x_law_least [.int 12, .int 2] = some (.int 6) := by kernel_rfl
theorem tl_12_4 : x_law_least [.int 12, .int 4] = some (.int 3) := by kernel_rfl
theorem tl_12_6 : x_law_least [.int 12, .int 6] = some (.int 2) := by kernel_rfl
theorem tl_12_8 : x_law_least [.int 12, .int 8] = some (.int 2) := by kernel_rfl
theorem tl_12_10 : x_law_least [.int 12, .int 10] = some (.int 2) := by kernel_rfl
theorem tl_12_12 : x_law_least [.int 12, .int 12] = some (.int 1) := by kernel_rfl
theorem tl_12 : ∀ q ∈ tb_12, x_law_least [.int 12, .int q.1] = some (.int q.2) := by
  intro q hq
  simp only [tb_12, List.mem_cons, List.not_mem_nil, or_false] at hq
  rcases hq with rfl | rfl | rfl | rfl | rfl | rfl
  · exact tl_12_2
  · exact tl_12_4
  · exact tl_12_6
  · exact tl_12_8
  · exact tl_12_10
  · exact tl_12_12
theorem tp_13_2 : x_least_voices [.int 13, .int 2] = some (.int 12) := by kernel_rfl
theorem tp_13_4 : x_least_voices [.int 13, .int 4] = some (.int 10) := by kernel_rfl
theorem tp_13_6 : x_least_voices [.int 13, .int 6] = some (.int 8) := by kernel_rfl
theorem tp_13_8 : x_least_voices [.int 13, .int 8] = some (.int 6) := by kernel_rfl
theorem tp_13_10 : x_least_voices [.int 13, .int 10] = some (.int 4) := by kernel_rfl
theorem tp_13_12 : x_least_voices [.int 13, .int 12] = some (.int 2) := by kernel_rfl
theorem tp_13_13 : x_least_voices [.int 13, .int 13] = some (.int 1) := by kernel_rfl
theorem tp_13 : ∀ q ∈ tb_13, x_least_voices [.int 13, .int q.1] = some (.int q.2) := by
  intro q hq
  simp only [tb_13, List.mem_cons, List.not_mem_nil, or_false] at hq
  rcases hq with rfl | rfl | rfl | rfl | rfl | rfl | rfl
  · exact tp_13_2
  · exact tp_13_4
  · exact tp_13_6
  · exact tp_13_8
  · exact tp_13_10
  · exact tp_13_12
  · exact tp_13_13
theorem tl_13_2 : x_law_least [.int 13, .int 2] = some (.int 12) := by kernel_rfl
theorem tl_13_4 : x_law_least [.int 13, .int 4] = some (.int 10) := by kernel_rfl
theorem tl_13_6 : x_law_least [.int 13, .int 6] = some (.int 8) := by kernel_rfl
theorem tl_13_8 : x_law_least [.int 13, .int 8] = some (.int 6) := by kernel_rfl
theorem tl_13_10 : x_law_least [.int 13, .int 10] = some (.int 4) := by kernel_rfl
theorem tl_13_12 : x_law_least [.int 13, .int 12] = some (.int 2) := by kernel_rfl
theorem tl_13_13 : x_law_least [.int 13, .int 13] = some (.int 1) := by kernel_rfl
theorem tl_13 : ∀ q ∈ tb_13, x_law_least [.int 13, .int q.1] = some (.int q.2) := by
  intro q hq
  simp only [tb_13, List.mem_cons, List.not_mem_nil, or_false] at hq
  rcases hq with rfl | rfl | rfl | rfl | rfl | rfl | rfl
  · exact tl_13_2
  · exact tl_13_4
  · exact tl_13_6
  · exact tl_13_8
  · exact tl_13_10
  · exact tl_13_12
  · exact tl_13_13
theorem tp_30_2 : x_least_voices [.int 30, .int 2] = some (.int 15) := by kernel_rfl
theorem tp_30_4 : x_least_voices [.int 30, .int 4] = some (.int 10) := by kernel_rfl
theorem tp_30_6 : x_least_voices [.int 30, .int 6] = some (.int 5) := by kernel_rfl
theorem tp_30_8 : x_least_voices [.int 30, .int 8] = some (.int 5) := by kernel_rfl
theorem tp_30_10 : x_least_voices [.int 30, .int 10] = some (.int 3) := by kernel_rfl
theorem tp_30_12 : x_least_voices [.int 30, .int 12] = some (.int 3) := by kernel_rfl
theorem tp_30_14 : x_least_voices [.int 30, .int 14] = some (.int 3) := by kernel_rfl
theorem tp_30_16 : x_least_voices [.int 30, .int 16] = some (.int 2) := by kernel_rfl
theorem tp_30_18 : x_least_voices [.int 30, .int 18] = some (.int 2) := by kernel_rfl
theorem tp_30_20 : x_least_voices [.int 30, .int 20] = some (.int 2) := by kernel_rfl
theorem tp_30_22 : x_least_voices [.int 30, .int 22] = some (.int 2) := by kernel_rfl
theorem tp_30_24 : x_least_voices [.int 30, .int 24] = some (.int 2) := by kernel_rfl
theorem tp_30_26 : x_least_voices [.int 30, .int 26] = some (.int 2) := by kernel_rfl
theorem tp_30_28 : x_least_voices [.int 30, .int 28] = some (.int 2) := by kernel_rfl
theorem tp_30_30 : x_least_voices [.int 30, .int 30] = some (.int 1) := by kernel_rfl
theorem tp_30 : ∀ q ∈ tb_30, x_least_voices [.int 30, .int q.1] = some (.int q.2) := by
  intro q hq
  simp only [tb_30, List.mem_cons, List.not_mem_nil, or_false] at hq
  rcases hq with rfl | rfl | rfl | rfl | rfl | rfl | rfl | rfl | rfl | rfl | rfl | rfl | rfl | rfl | rfl
  · exact tp_30_2
  · exact tp_30_4
  · exact tp_30_6
  · exact tp_30_8
  · exact tp_30_10
  · exact tp_30_12
  · exact tp_30_14
  · exact tp_30_16
  · exact tp_30_18
  · exact tp_30_20
  · exact tp_30_22
  · exact tp_30_24
  · exact tp_30_26
  · exact tp_30_28
  · exact tp_30_30
theorem tl_30_2 : x_law_least [.int 30, .int 2] = some (.int 15) := by kernel_rfl
theorem tl_30_4 : x_law_least [.int 30, .int 4] = some (.int 10) := by kernel_rfl
theorem tl_30_6 : x_law_least [.int 30, .int 6] = some (.int 5) := by kernel_rfl
theorem tl_30_8 : x_law_least [.int 30, .int 8] = some (.int 5) := by kernel_rfl
theorem tl_30_10 : x_law_least [.int 30, .int 10] = some (.int 3) := by kernel_rfl
theorem tl_30_12 : x_law_least [.int 30, .int 12] = some (.int 3) := by kernel_rfl
theorem tl_30_14 : x_law_least [.int 30, .int 14] = some (.int 3) := by kernel_rfl
theorem tl_30_16 : x_law_least [.int 30, .int 16] = some (.int 2) := by kernel_rfl
theorem tl_30_18 : x_law_least [.int 30, .int 18] = some (.int 2) := by kernel_rfl
theorem tl_30_20 : x_law_least [.int 30, .int 20] = some (.int 2) := by kernel_rfl
theorem tl_30_22 : x_law_least [.int 30, .int 22] = some (.int 2) := by kernel_rfl
theorem tl_30_24 : x_law_least [.int 30, .int 24] = some (.int 2) := by kernel_rfl
theorem tl_30_26 : x_law_least [.int 30, .int 26] = some (.int 2) := by kernel_rfl
theorem tl_30_28 : x_law_least [.int 30, .int 28] = some (.int 2) := by kernel_rfl
theorem tl_30_30 : x_law_least [.int 30, .int 30] = some (.int 1) := by kernel_rfl
theorem tl_30 : ∀ q ∈ tb_30, x_law_least [.int 30, .int q.1] = some (.int q.2) := by
  intro q hq
  simp only [tb_30, List.mem_cons, List.not_mem_nil, or_false] at hq
  rcases hq with rfl | rfl | rfl | rfl | rfl | rfl | rfl | rfl | rfl | rfl | rfl | rfl | rfl | rfl | rfl
  · exact tl_30_2
  · exact tl_30_4
  · exact tl_30_6
  · exact tl_30_8
  · exact tl_30_10
  · exact tl_30_12
  · exact tl_30_14
  · exact tl_30_16
  · exact tl_30_18
  · exact tl_30_20
  · exact tl_30_22
  · exact tl_30_24
  · exact tl_30_26
  · exact tl_30_28
  · exact tl_30_30
theorem tp_36_2 : x_least_voices [.int 36, .int 2] = some (.int 18) := by kernel_rfl
theorem tp_36_4 : x_least_voices [.int 36, .int 4] = some (.int 9) := by kernel_rfl
theorem tp_36_6 : x_least_voices [.int 36, .int 6] = some (.int 6) := by kernel_rfl
theorem tp_36_8 : x_least_voices [.int 36, .int 8] = some (.int 6) := by kernel_rfl
theorem tp_36_10 : x_least_voices [.int 36, .int 10] = some (.int 4) := by kernel_rfl
theorem tp_36_12 : x_least_voices [.int 36, .int 12] = some (.int 3) := by kernel_rfl
theorem tp_36_14 : x_least_voices [.int 36, .int 14] = some (.int 3) := by kernel_rfl
theorem tp_36_16 : x_least_voices [.int 36, .int 16] = some (.int 3) := by kernel_rfl
theorem tp_36_18 : x_least_voices [.int 36, .int 18] = some (.int 2) := by kernel_rfl
theorem tp_36_20 : x_least_voices [.int 36, .int 20] = some (.int 2) := by kernel_rfl
theorem tp_36_22 : x_least_voices [.int 36, .int 22] = some (.int 2) := by kernel_rfl
theorem tp_36_24 : x_least_voices [.int 36, .int 24] = some (.int 2) := by kernel_rfl
theorem tp_36_26 : x_least_voices [.int 36, .int 26] = some (.int 2) := by kernel_rfl
theorem tp_36_28 : x_least_voices [.int 36, .int 28] = some (.int 2) := by kernel_rfl
theorem tp_36_30 : x_least_voices [.int 36, .int 30] = some (.int 2) := by kernel_rfl
theorem tp_36_32 : x_least_voices [.int 36, .int 32] = some (.int 2) := by kernel_rfl
theorem tp_36_34 : x_least_voices [.int 36, .int 34] = some (.int 2) := by kernel_rfl
theorem tp_36_36 : x_least_voices [.int 36, .int 36] = some (.int 1) := by kernel_rfl
theorem tp_36 : ∀ q ∈ tb_36, x_least_voices [.int 36, .int q.1] = some (.int q.2) := by
  intro q hq
  simp only [tb_36, List.mem_cons, List.not_mem_nil, or_false] at hq
  rcases hq with rfl | rfl | rfl | rfl | rfl | rfl | rfl | rfl | rfl | rfl | rfl | rfl | rfl | rfl | rfl | rfl | rfl | rfl
  · exact tp_36_2
  · exact tp_36_4
  · exact tp_36_6
  · exact tp_36_8
  · exact tp_36_10
  · exact tp_36_12
  · exact tp_36_14
  · exact tp_36_16
  · exact tp_36_18
  · exact tp_36_20
  · exact tp_36_22
  · exact tp_36_24
  · exact tp_36_26
  · exact tp_36_28
  · exact tp_36_30
  · exact tp_36_32
  · exact tp_36_34
  · exact tp_36_36
theorem tl_36_2 : x_law_least [.int 36, .int 2] = some (.int 18) := by kernel_rfl
theorem tl_36_4 : x_law_least [.int 36, .int 4] = some (.int 9) := by kernel_rfl
theorem tl_36_6 : x_law_least [.int 36, .int 6] = some (.int 6) := by kernel_rfl
theorem tl_36_8 : x_law_least [.int 36, .int 8] = some (.int 6) := by kernel_rfl
theorem tl_36_10 : x_law_least [.int 36, .int 10] = some (.int 4) := by kernel_rfl
theorem tl_36_12 : x_law_least [.int 36, .int 12] = some (.int 3) := by kernel_rfl
theorem tl_36_14 : x_law_least [.int 36, .int 14] = some (.int 3) := by kernel_rfl
theorem tl_36_16 : x_law_least [.int 36, .int 16] = some (.int 3) := by kernel_rfl
theorem tl_36_18 : x_law_least [.int 36, .int 18] = some (.int 2) := by kernel_rfl
theorem tl_36_20 : x_law_least [.int 36, .int 20] = some (.int 2) := by kernel_rfl
theorem tl_36_22 : x_law_least [.int 36, .int 22] = some (.int 2) := by kernel_rfl
theorem tl_36_24 : x_law_least [.int 36, .int 24] = some (.int 2) := by kernel_rfl
theorem tl_36_26 : x_law_least [.int 36, .int 26] = some (.int 2) := by kernel_rfl
theorem tl_36_28 : x_law_least [.int 36, .int 28] = some (.int 2) := by kernel_rfl
theorem tl_36_30 : x_law_least [.int 36, .int 30] = some (.int 2) := by kernel_rfl
theorem tl_36_32 : x_law_least [.int 36, .int 32] = some (.int 2) := by kernel_rfl
theorem tl_36_34 : x_law_least [.int 36, .int 34] = some (.int 2) := by kernel_rfl
theorem tl_36_36 : x_law_least [.int 36, .int 36] = some (.int 1) := by kernel_rfl
theorem tl_36 : ∀ q ∈ tb_36, x_law_least [.int 36, .int q.1] = some (.int q.2) := by
  intro q hq
  simp only [tb_36, List.mem_cons, List.not_mem_nil, or_false] at hq
  rcases hq with rfl | rfl | rfl | rfl | rfl | rfl | rfl | rfl | rfl | rfl | rfl | rfl | rfl | rfl | rfl | rfl | rfl | rfl
  · exact tl_36_2
  · exact tl_36_4
  · exact tl_36_6
  · exact tl_36_8
  · exact tl_36_10
  · exact tl_36_12
  · exact tl_36_14
  · exact tl_36_16
  · exact tl_36_18
  · exact tl_36_20
  · exact tl_36_22
  · exact tl_36_24
  · exact tl_36_26
  · exact tl_36_28
  · exact tl_36_30
  · exact tl_36_32
  · exact tl_36_34
  · exact tl_36_36
theorem tp_50_2 : x_least_voices [.int 50, .int 2] = some (.int 25) := by kernel_rfl
theorem tp_50_4 : x_least_voices [.int 50, .int 4] = some (.int 20) := by kernel_rfl
theorem tp_50_6 : x_least_voices [.int 50, .int 6] = some (.int 10) := by kernel_rfl
theorem tp_50_8 : x_least_voices [.int 50, .int 8] = some (.int 10) := by kernel_rfl
theorem tp_50_10 : x_least_voices [.int 50, .int 10] = some (.int 5) := by kernel_rfl
theorem tp_50_12 : x_least_voices [.int 50, .int 12] = some (.int 5) := by kernel_rfl
theorem tp_50_14 : x_least_voices [.int 50, .int 14] = some (.int 5) := by kernel_rfl
theorem tp_50_16 : x_least_voices [.int 50, .int 16] = some (.int 5) := by kernel_rfl
theorem tp_50_18 : x_least_voices [.int 50, .int 18] = some (.int 5) := by kernel_rfl
theorem tp_50_20 : x_least_voices [.int 50, .int 20] = some (.int 4) := by kernel_rfl
theorem tp_50_22 : x_least_voices [.int 50, .int 22] = some (.int 4) := by kernel_rfl
theorem tp_50_24 : x_least_voices [.int 50, .int 24] = some (.int 4) := by kernel_rfl
theorem tp_50_26 : x_least_voices [.int 50, .int 26] = some (.int 2) := by kernel_rfl
theorem tp_50_28 : x_least_voices [.int 50, .int 28] = some (.int 2) := by kernel_rfl
theorem tp_50_30 : x_least_voices [.int 50, .int 30] = some (.int 2) := by kernel_rfl
theorem tp_50_32 : x_least_voices [.int 50, .int 32] = some (.int 2) := by kernel_rfl
theorem tp_50_34 : x_least_voices [.int 50, .int 34] = some (.int 2) := by kernel_rfl
theorem tp_50_36 : x_least_voices [.int 50, .int 36] = some (.int 2) := by kernel_rfl
theorem tp_50_38 : x_least_voices [.int 50, .int 38] = some (.int 2) := by kernel_rfl
theorem tp_50_40 : x_least_voices [.int 50, .int 40] = some (.int 2) := by kernel_rfl
theorem tp_50_42 : x_least_voices [.int 50, .int 42] = some (.int 2) := by kernel_rfl
theorem tp_50_44 : x_least_voices [.int 50, .int 44] = some (.int 2) := by kernel_rfl
theorem tp_50_46 : x_least_voices [.int 50, .int 46] = some (.int 2) := by kernel_rfl
theorem tp_50_48 : x_least_voices [.int 50, .int 48] = some (.int 2) := by kernel_rfl
theorem tp_50_50 : x_least_voices [.int 50, .int 50] = some (.int 1) := by kernel_rfl
theorem tp_50 : ∀ q ∈ tb_50, x_least_voices [.int 50, .int q.1] = some (.int q.2) := by
  intro q hq
  simp only [tb_50, List.mem_cons, List.not_mem_nil, or_false] at hq
  rcases hq with rfl | rfl | rfl | rfl | rfl | rfl | rfl | rfl | rfl | rfl | rfl | rfl | rfl | rfl | rfl | rfl | rfl | rfl | rfl | rfl | rfl | rfl | rfl | rfl | rfl
  · exact tp_50_2
  · exact tp_50_4
  · exact tp_50_6
  · exact tp_50_8
  · exact tp_50_10
  · exact tp_50_12
  · exact tp_50_14
  · exact tp_50_16
  · exact tp_50_18
  · exact tp_50_20
  · exact tp_50_22
  · exact tp_50_24
  · exact tp_50_26
  · exact tp_50_28
  · exact tp_50_30
  · exact tp_50_32
  · exact tp_50_34
  · exact tp_50_36
  · exact tp_50_38
  · exact tp_50_40
  · exact tp_50_42
  · exact tp_50_44
  · exact tp_50_46
  · exact tp_50_48
  · exact tp_50_50
theorem tl_50_2 : x_law_least [.int 50, .int 2] = some (.int 25) := by kernel_rfl
theorem tl_50_4 : x_law_least [.int 50, .int 4] = some (.int 20) := by kernel_rfl
theorem tl_50_6 : x_law_least [.int 50, .int 6] = some (.int 10) := by kernel_rfl
theorem tl_50_8 : x_law_least [.int 50, .int 8] = some (.int 10) := by kernel_rfl
theorem tl_50_10 : x_law_least [.int 50, .int 10] = some (.int 5) := by kernel_rfl
theorem tl_50_12 : x_law_least [.int 50, .int 12] = some (.int 5) := by kernel_rfl
theorem tl_50_14 : x_law_least [.int 50, .int 14] = some (.int 5) := by kernel_rfl
theorem tl_50_16 : x_law_least [.int 50, .int 16] = some (.int 5) := by kernel_rfl
theorem tl_50_18 : x_law_least [.int 50, .int 18] = some (.int 5) := by kernel_rfl
theorem tl_50_20 : x_law_least [.int 50, .int 20] = some (.int 4) := by kernel_rfl
theorem tl_50_22 : x_law_least [.int 50, .int 22] = some (.int 4) := by kernel_rfl
theorem tl_50_24 : x_law_least [.int 50, .int 24] = some (.int 4) := by kernel_rfl
theorem tl_50_26 : x_law_least [.int 50, .int 26] = some (.int 2) := by kernel_rfl
theorem tl_50_28 : x_law_least [.int 50, .int 28] = some (.int 2) := by kernel_rfl
theorem tl_50_30 : x_law_least [.int 50, .int 30] = some (.int 2) := by kernel_rfl
theorem tl_50_32 : x_law_least [.int 50, .int 32] = some (.int 2) := by kernel_rfl
theorem tl_50_34 : x_law_least [.int 50, .int 34] = some (.int 2) := by kernel_rfl
theorem tl_50_36 : x_law_least [.int 50, .int 36] = some (.int 2) := by kernel_rfl
theorem tl_50_38 : x_law_least [.int 50, .int 38] = some (.int 2) := by kernel_rfl
theorem tl_50_40 : x_law_least [.int 50, .int 40] = some (.int 2) := by kernel_rfl
theorem tl_50_42 : x_law_least [.int 50, .int 42] = some (.int 2) := by kernel_rfl
theorem tl_50_44 : x_law_least [.int 50, .int 44] = some (.int 2) := by kernel_rfl
theorem tl_50_46 : x_law_least [.int 50, .int 46] = some (.int 2) := by kernel_rfl
theorem tl_50_48 : x_law_least [.int 50, .int 48] = some (.int 2) := by kernel_rfl
theorem tl_50_50 : x_law_least [.int 50, .int 50] = some (.int 1) := by kernel_rfl
theorem tl_50 : ∀ q ∈ tb_50, x_law_least [.int 50, .int q.1] = some (.int q.2) := by
  intro q hq
  simp only [tb_50, List.mem_cons, List.not_mem_nil, or_false] at hq
  rcases hq with rfl | rfl | rfl | rfl | rfl | rfl | rfl | rfl | rfl | rfl | rfl | rfl | rfl | rfl | rfl | rfl | rfl | rfl | rfl | rfl | rfl | rfl | rfl | rfl | rfl
  · exact tl_50_2
  · exact tl_50_4
  · exact tl_50_6
  · exact tl_50_8
  · exact tl_50_10
  · exact tl_50_12
  · exact tl_50_14
  · exact tl_50_16
  · exact tl_50_18
  · exact tl_50_20
  · exact tl_50_22
  · exact tl_50_24
  · exact tl_50_26
  · exact tl_50_28
  · exact tl_50_30
  · exact tl_50_32
  · exact tl_50_34
  · exact tl_50_36
  · exact tl_50_38
  · exact tl_50_40
  · exact tl_50_42
  · exact tl_50_44
  · exact tl_50_46
  · exact tl_50_48
  · exact tl_50_50
theorem tp_59_2 : x_least_voices [.int 59, .int 2] = some (.int 58) := by kernel_rfl
theorem tp_59_4 : x_least_voices [.int 59, .int 4] = some (.int 56) := by kernel_rfl
theorem tp_59_6 : x_least_voices [.int 59, .int 6] = some (.int 54) := by kernel_rfl
theorem tp_59_8 : x_least_voices [.int 59, .int 8] = some (.int 52) := by kernel_rfl
theorem tp_59_10 : x_least_voices [.int 59, .int 10] = some (.int 50) := by kernel_rfl
theorem tp_59_12 : x_least_voices [.int 59, .int 12] = some (.int 48) := by kernel_rfl
theorem tp_59_14 : x_least_voices [.int 59, .int 14] = some (.int 46) := by kernel_rfl
theorem tp_59_16 : x_least_voices [.int 59, .int 16] = some (.int 44) := by kernel_rfl
theorem tp_59_18 : x_least_voices [.int 59, .int 18] = some (.int 42) := by kernel_rfl
theorem tp_59_20 : x_least_voices [.int 59, .int 20] = some (.int 40) := by kernel_rfl
theorem tp_59_22 : x_least_voices [.int 59, .int 22] = some (.int 38) := by kernel_rfl
theorem tp_59_24 : x_least_voices [.int 59, .int 24] = some (.int 36) := by kernel_rfl
theorem tp_59_26 : x_least_voices [.int 59, .int 26] = some (.int 34) := by kernel_rfl
theorem tp_59_28 : x_least_voices [.int 59, .int 28] = some (.int 32) := by kernel_rfl
theorem tp_59_30 : x_least_voices [.int 59, .int 30] = some (.int 30) := by kernel_rfl
theorem tp_59_32 : x_least_voices [.int 59, .int 32] = some (.int 28) := by kernel_rfl
theorem tp_59_34 : x_least_voices [.int 59, .int 34] = some (.int 26) := by kernel_rfl
theorem tp_59_36 : x_least_voices [.int 59, .int 36] = some (.int 24) := by kernel_rfl
theorem tp_59_38 : x_least_voices [.int 59, .int 38] = some (.int 22) := by kernel_rfl
theorem tp_59_40 : x_least_voices [.int 59, .int 40] = some (.int 20) := by kernel_rfl
theorem tp_59_42 : x_least_voices [.int 59, .int 42] = some (.int 18) := by kernel_rfl
theorem tp_59_44 : x_least_voices [.int 59, .int 44] = some (.int 16) := by kernel_rfl
theorem tp_59_46 : x_least_voices [.int 59, .int 46] = some (.int 14) := by kernel_rfl
theorem tp_59_48 : x_least_voices [.int 59, .int 48] = some (.int 12) := by kernel_rfl
theorem tp_59_50 : x_least_voices [.int 59, .int 50] = some (.int 10) := by kernel_rfl
theorem tp_59_52 : x_least_voices [.int 59, .int 52] = some (.int 8) := by kernel_rfl
theorem tp_59_54 : x_least_voices [.int 59, .int 54] = some (.int 6) := by kernel_rfl
theorem tp_59_56 : x_least_voices [.int 59, .int 56] = some (.int 4) := by kernel_rfl
theorem tp_59_58 : x_least_voices [.int 59, .int 58] = some (.int 2) := by kernel_rfl
theorem tp_59_59 : x_least_voices [.int 59, .int 59] = some (.int 1) := by kernel_rfl
theorem tp_59 : ∀ q ∈ tb_59, x_least_voices [.int 59, .int q.1] = some (.int q.2) := by
  intro q hq
  simp only [tb_59, List.mem_cons, List.not_mem_nil, or_false] at hq
  rcases hq with rfl | rfl | rfl | rfl | rfl | rfl | rfl | rfl | rfl | rfl | rfl | rfl | rfl | rfl | rfl | rfl | rfl | rfl | rfl | rfl | rfl | rfl | rfl | rfl | rfl | rfl | rfl | rfl | rfl | rfl
  · exact tp_59_2
  · exact tp_59_4
  · exact tp_59_6
  · exact tp_59_8
  · exact tp_59_10
  · exact tp_59_12
  · exact tp_59_14
  · exact tp_59_16
  · exact tp_59_18
  · exact tp_59_20
  · exact tp_59_22
  · exact tp_59_24
  · exact tp_59_26
  · exact tp_59_28
  · exact tp_59_30
  · exact tp_59_32
  · exact tp_59_34
  · exact tp_59_36
  · exact tp_59_38
  · exact tp_59_40
  · exact tp_59_42
  · exact tp_59_44
  · exact tp_59_46
  · exact tp_59_48
  · exact tp_59_50
  · exact tp_59_52
  · exact tp_59_54
  · exact tp_59_56
  · exact tp_59_58
  · exact tp_59_59
theorem tl_59_2 : x_law_least [.int 59, .int 2] = some (.int 58) := by kernel_rfl
theorem tl_59_4 : x_law_least [.int 59, .int 4] = some (.int 56) := by kernel_rfl
theorem tl_59_6 : x_law_least [.int 59, .int 6] = some (.int 54) := by kernel_rfl
theorem tl_59_8 : x_law_least [.int 59, .int 8] = some (.int 52) := by kernel_rfl
theorem tl_59_10 : x_law_least [.int 59, .int 10] = some (.int 50) := by kernel_rfl
theorem tl_59_12 : x_law_least [.int 59, .int 12] = some (.int 48) := by kernel_rfl
theorem tl_59_14 : x_law_least [.int 59, .int 14] = some (.int 46) := by kernel_rfl
theorem tl_59_16 : x_law_least [.int 59, .int 16] = some (.int 44) := by kernel_rfl
theorem tl_59_18 : x_law_least [.int 59, .int 18] = some (.int 42) := by kernel_rfl
theorem tl_59_20 : x_law_least [.int 59, .int 20] = some (.int 40) := by kernel_rfl
theorem tl_59_22 : x_law_least [.int 59, .int 22] = some (.int 38) := by kernel_rfl
theorem tl_59_24 : x_law_least [.int 59, .int 24] = some (.int 36) := by kernel_rfl
theorem tl_59_26 : x_law_least [.int 59, .int 26] = some (.int 34) := by kernel_rfl
theorem tl_59_28 : x_law_least [.int 59, .int 28] = some (.int 32) := by kernel_rfl
theorem tl_59_30 : x_law_least [.int 59, .int 30] = some (.int 30) := by kernel_rfl
theorem tl_59_32 : x_law_least [.int 59, .int 32] = some (.int 28) := by kernel_rfl
theorem tl_59_34 : x_law_least [.int 59, .int 34] = some (.int 26) := by kernel_rfl
theorem tl_59_36 : x_law_least [.int 59, .int 36] = some (.int 24) := by kernel_rfl
theorem tl_59_38 : x_law_least [.int 59, .int 38] = some (.int 22) := by kernel_rfl
theorem tl_59_40 : x_law_least [.int 59, .int 40] = some (.int 20) := by kernel_rfl
theorem tl_59_42 : x_law_least [.int 59, .int 42] = some (.int 18) := by kernel_rfl
theorem tl_59_44 : x_law_least [.int 59, .int 44] = some (.int 16) := by kernel_rfl
theorem tl_59_46 : x_law_least [.int 59, .int 46] = some (.int 14) := by kernel_rfl
theorem tl_59_48 : x_law_least [.int 59, .int 48] = some (.int 12) := by kernel_rfl
theorem tl_59_50 : x_law_least [.int 59, .int 50] = some (.int 10) := by kernel_rfl
theorem tl_59_52 : x_law_least [.int 59, .int 52] = some (.int 8) := by kernel_rfl
theorem tl_59_54 : x_law_least [.int 59, .int 54] = some (.int 6) := by kernel_rfl
theorem tl_59_56 : x_law_least [.int 59, .int 56] = some (.int 4) := by kernel_rfl
theorem tl_59_58 : x_law_least [.int 59, .int 58] = some (.int 2) := by kernel_rfl
theorem tl_59_59 : x_law_least [.int 59, .int 59] = some (.int 1) := by kernel_rfl
theorem tl_59 : ∀ q ∈ tb_59, x_law_least [.int 59, .int q.1] = some (.int q.2) := by
  intro q hq
  simp only [tb_59, List.mem_cons, List.not_mem_nil, or_false] at hq
  rcases hq with rfl | rfl | rfl | rfl | rfl | rfl | rfl | rfl | rfl | rfl | rfl | rfl | rfl | rfl | rfl | rfl | rfl | rfl | rfl | rfl | rfl | rfl | rfl | rfl | rfl | rfl | rfl | rfl | rfl | rfl
  · exact tl_59_2
  · exact tl_59_4
  · exact tl_59_6
  · exact tl_59_8
  · exact tl_59_10
  · exact tl_59_12
  · exact tl_59_14
  · exact tl_59_16
  · exact tl_59_18
  · exact tl_59_20
  · exact tl_59_22
  · exact tl_59_24
  · exact tl_59_26
  · exact tl_59_28
  · exact tl_59_30
  · exact tl_59_32
  · exact tl_59_34
  · exact tl_59_36
  · exact tl_59_38
  · exact tl_59_40
  · exact tl_59_42
  · exact tl_59_44
  · exact tl_59_46
  · exact tl_59_48
  · exact tl_59_50
  · exact tl_59_52
  · exact tl_59_54
  · exact tl_59_56
  · exact tl_59_58
  · exact tl_59_59
theorem tp_60_2 : x_least_voices [.int 60, .int 2] = some (.int 30) := by kernel_rfl
theorem tp_60_4 : x_least_voices [.int 60, .int 4] = some (.int 15) := by kernel_rfl
theorem tp_60_6 : x_least_voices [.int 60, .int 6] = some (.int 10) := by kernel_rfl
theorem tp_60_8 : x_least_voices [.int 60, .int 8] = some (.int 10) := by kernel_rfl
theorem tp_60_10 : x_least_voices [.int 60, .int 10] = some (.int 6) := by kernel_rfl
theorem tp_60_12 : x_least_voices [.int 60, .int 12] = some (.int 5) := by kernel_rfl
theorem tp_60_14 : x_least_voices [.int 60, .int 14] = some (.int 5) := by kernel_rfl
theorem tp_60_16 : x_least_voices [.int 60, .int 16] = some (.int 4) := by kernel_rfl
theorem tp_60_18 : x_least_voices [.int 60, .int 18] = some (.int 4) := by kernel_rfl
theorem tp_60_20 : x_least_voices [.int 60, .int 20] = some (.int 3) := by kernel_rfl
theorem tp_60_22 : x_least_voices [.int 60, .int 22] = some (.int 3) := by kernel_rfl
theorem tp_60_24 : x_least_voices [.int 60, .int 24] = some (.int 3) := by kernel_rfl
theorem tp_60_26 : x_least_voices [.int 60, .int 26] = some (.int 3) := by kernel_rfl
theorem tp_60_28 : x_least_voices [.int 60, .int 28] = some (.int 3) := by kernel_rfl
theorem tp_60_30 : x_least_voices [.int 60, .int 30] = some (.int 2) := by kernel_rfl
theorem tp_60_32 : x_least_voices [.int 60, .int 32] = some (.int 2) := by kernel_rfl
theorem tp_60_34 : x_least_voices [.int 60, .int 34] = some (.int 2) := by kernel_rfl
theorem tp_60_36 : x_least_voices [.int 60, .int 36] = some (.int 2) := by kernel_rfl
theorem tp_60_38 : x_least_voices [.int 60, .int 38] = some (.int 2) := by kernel_rfl
theorem tp_60_40 : x_least_voices [.int 60, .int 40] = some (.int 2) := by kernel_rfl
theorem tp_60_42 : x_least_voices [.int 60, .int 42] = some (.int 2) := by kernel_rfl
theorem tp_60_44 : x_least_voices [.int 60, .int 44] = some (.int 2) := by kernel_rfl
theorem tp_60_46 : x_least_voices [.int 60, .int 46] = some (.int 2) := by kernel_rfl
theorem tp_60_48 : x_least_voices [.int 60, .int 48] = some (.int 2) := by kernel_rfl
theorem tp_60_50 : x_least_voices [.int 60, .int 50] = some (.int 2) := by kernel_rfl
theorem tp_60_52 : x_least_voices [.int 60, .int 52] = some (.int 2) := by kernel_rfl
theorem tp_60_54 : x_least_voices [.int 60, .int 54] = some (.int 2) := by kernel_rfl
theorem tp_60_56 : x_least_voices [.int 60, .int 56] = some (.int 2) := by kernel_rfl
theorem tp_60_58 : x_least_voices [.int 60, .int 58] = some (.int 2) := by kernel_rfl
theorem tp_60_60 : x_least_voices [.int 60, .int 60] = some (.int 1) := by kernel_rfl
theorem tp_60 : ∀ q ∈ tb_60, x_least_voices [.int 60, .int q.1] = some (.int q.2) := by
  intro q hq
  simp only [tb_60, List.mem_cons, List.not_mem_nil, or_false] at hq
  rcases hq with rfl | rfl | rfl | rfl | rfl | rfl | rfl | rfl | rfl | rfl | rfl | rfl | rfl | rfl | rfl | rfl | rfl | rfl | rfl | rfl | rfl | rfl | rfl | rfl | rfl | rfl | rfl | rfl | rfl | rfl
  · exact tp_60_2
  · exact tp_60_4
  · exact tp_60_6
  · exact tp_60_8
  · exact tp_60_10
  · exact tp_60_12
  · exact tp_60_14
  · exact tp_60_16
  · exact tp_60_18
  · exact tp_60_20
  · exact tp_60_22
  · exact tp_60_24
  · exact tp_60_26
  · exact tp_60_28
  · exact tp_60_30
  · exact tp_60_32
  · exact tp_60_34
  · exact tp_60_36
  · exact tp_60_38
  · exact tp_60_40
  · exact tp_60_42
  · exact tp_60_44
  · exact tp_60_46
  · exact tp_60_48
  · exact tp_60_50
  · exact tp_60_52
  · exact tp_60_54
  · exact tp_60_56
  · exact tp_60_58
  · exact tp_60_60
theorem tl_60_2 : x_law_least [.int 60, .int 2] = some (.int 30) := by kernel_rfl
theorem tl_60_4 : x_law_least [.int 60, .int 4] = some (.int 15) := by kernel_rfl
theorem tl_60_6 : x_law_least [.int 60, .int 6] = some (.int 10) := by kernel_rfl
theorem tl_60_8 : x_law_least [.int 60, .int 8] = some (.int 10) := by kernel_rfl
theorem tl_60_10 : x_law_least [.int 60, .int 10] = some (.int 6) := by kernel_rfl
theorem tl_60_12 : x_law_least [.int 60, .int 12] = some (.int 5) := by kernel_rfl
theorem tl_60_14 : x_law_least [.int 60, .int 14] = some (.int 5) := by kernel_rfl
theorem tl_60_16 : x_law_least [.int 60, .int 16] = some (.int 4) := by kernel_rfl
theorem tl_60_18 : x_law_least [.int 60, .int 18] = some (.int 4) := by kernel_rfl
theorem tl_60_20 : x_law_least [.int 60, .int 20] = some (.int 3) := by kernel_rfl
theorem tl_60_22 : x_law_least [.int 60, .int 22] = some (.int 3) := by kernel_rfl
theorem tl_60_24 : x_law_least [.int 60, .int 24] = some (.int 3) := by kernel_rfl
theorem tl_60_26 : x_law_least [.int 60, .int 26] = some (.int 3) := by kernel_rfl
theorem tl_60_28 : x_law_least [.int 60, .int 28] = some (.int 3) := by kernel_rfl
theorem tl_60_30 : x_law_least [.int 60, .int 30] = some (.int 2) := by kernel_rfl
theorem tl_60_32 : x_law_least [.int 60, .int 32] = some (.int 2) := by kernel_rfl
theorem tl_60_34 : x_law_least [.int 60, .int 34] = some (.int 2) := by kernel_rfl
theorem tl_60_36 : x_law_least [.int 60, .int 36] = some (.int 2) := by kernel_rfl
theorem tl_60_38 : x_law_least [.int 60, .int 38] = some (.int 2) := by kernel_rfl
theorem tl_60_40 : x_law_least [.int 60, .int 40] = some (.int 2) := by kernel_rfl
theorem tl_60_42 : x_law_least [.int 60, .int 42] = some (.int 2) := by kernel_rfl
theorem tl_60_44 : x_law_least [.int 60, .int 44] = some (.int 2) := by kernel_rfl
theorem tl_60_46 : x_law_least [.int 60, .int 46] = some (.int 2) := by kernel_rfl
theorem tl_60_48 : x_law_least [.int 60, .int 48] = some (.int 2) := by kernel_rfl
theorem tl_60_50 : x_law_least [.int 60, .int 50] = some (.int 2) := by kernel_rfl
theorem tl_60_52 : x_law_least [.int 60, .int 52] = some (.int 2) := by kernel_rfl
theorem tl_60_54 : x_law_least [.int 60, .int 54] = some (.int 2) := by kernel_rfl
theorem tl_60_56 : x_law_least [.int 60, .int 56] = some (.int 2) := by kernel_rfl
theorem tl_60_58 : x_law_least [.int 60, .int 58] = some (.int 2) := by kernel_rfl
theorem tl_60_60 : x_law_least [.int 60, .int 60] = some (.int 1) := by kernel_rfl
theorem tl_60 : ∀ q ∈ tb_60, x_law_least [.int 60, .int q.1] = some (.int q.2) := by
  intro q hq
  simp only [tb_60, List.mem_cons, List.not_mem_nil, or_false] at hq
  rcases hq with rfl | rfl | rfl | rfl | rfl | rfl | rfl | rfl | rfl | rfl | rfl | rfl | rfl | rfl | rfl | rfl | rfl | rfl | rfl | rfl | rfl | rfl | rfl | rfl | rfl | rfl | rfl | rfl | rfl | rfl
  · exact tl_60_2
  · exact tl_60_4
  · exact tl_60_6
  · exact tl_60_8
  · exact tl_60_10
  · exact tl_60_12
  · exact tl_60_14
  · exact tl_60_16
  · exact tl_60_18
  · exact tl_60_20
  · exact tl_60_22
  · exact tl_60_24
  · exact tl_60_26
  · exact tl_60_28
  · exact tl_60_30
  · exact tl_60_32
  · exact tl_60_34
  · exact tl_60_36
  · exact tl_60_38
  · exact tl_60_40
  · exact tl_60_42
  · exact tl_60_44
  · exact tl_60_46
  · exact tl_60_48
  · exact tl_60_50
  · exact tl_60_52
  · exact tl_60_54
  · exact tl_60_56
  · exact tl_60_58
  · exact tl_60_60
theorem tab_least_voices : ∀ ds d, look tab ds = some d → x_least_voices ds = some d := look_ok fun r hr => by
  simp only [tab, List.mem_cons, List.not_mem_nil, or_false] at hr
  rcases hr with rfl | rfl | rfl | rfl | rfl | rfl | rfl | rfl | rfl | rfl | rfl | rfl | rfl | rfl | rfl
  · exact tp_2
  · exact tp_3
  · exact tp_4
  · exact tp_5
  · exact tp_6
  · exact tp_7
  · exact tp_8
  · exact tp_9
  · exact tp_12
  · exact tp_13
  · exact tp_30
  · exact tp_36
  · exact tp_50
  · exact tp_59
  · exact tp_60
theorem simt_least_voices {S : Type} : SimF (S := S) f_least_voices (look tab) := fun ds s Q ex d e q => sim_least_voices ds s Q ex d (tab_least_voices ds d e) q
theorem tab_law_least : ∀ ds d, look tab ds = some d → x_law_least ds = some d := look_ok fun r hr => by
  simp only [tab, List.mem_cons, List.not_mem_nil, or_false] at hr
  rcases hr with rfl | rfl | rfl | rfl | rfl | rfl | rfl | rfl | rfl | rfl | rfl | rfl | rfl | rfl | rfl
  · exact tl_2
  · exact tl_3
  · exact tl_4
  · exact tl_5
  · exact tl_6
  · exact tl_7
  · exact tl_8
  · exact tl_9
  · exact tl_12
  · exact tl_13
  · exact tl_30
  · exact tl_36
  · exact tl_50
  · exact tl_59
  · exact tl_60
theorem simt_law_least {S : Type} : SimF (S := S) f_law_least (look tab) := fun ds s Q ex d e q => sim_law_least ds s Q ex d (tab_law_least ds d e) q
end K31

end
section
set_option autoImplicit false
set_option linter.all false
set_option maxRecDepth 100000
namespace K31
open DL
variable {S : Type}

def y_sure_many : List D → Option D := xDef 4 (xSeq (xSet 3 (xBin xoAdd (xBin xoSub (xBin xoAdd (xBor 0) (xC (.int 1))) (xFn (look tab) (xCons (xVar 0) (xCons (xFn xfMin2 (xCons (xBin xoMul (xC (.int 2)) (xBor 1)) (xCons (xBor 0) xNil))) xNil)))) (xBin xoMul (xC (.int 2)) (xBor 2)))) (xSeq (xRet (xIf (xCmp xoLe (xBor 3) (xBor 0)) (xVar 3) (xC .non))) xsNil))
theorem simy_sure_many : SimF (S := S) f_sure_many y_sure_many := s_def fun ex => (s_seq (s_set (s_bin s_add (s_bin s_sub (s_bin s_add (s_bor 0) (s_c (.int 1))) (s_call simt_least_voices (s_cons (s_var 0) (s_cons (s_fn s_min2 (s_cons (s_bin s_mul (s_c (.int 2)) (s_bor 1)) (s_cons (s_bor 0) s_nil))) s_nil)))) (s_bin s_mul (s_c (.int 2)) (s_bor 2)))) (s_seq (s_ret (s_if (s_cmp s_le (s_bor 3) (s_bor 0)) (s_var 3) (s_c .non))) s_snil))

def y_sure_number : List D → Option D := xDef 3 (xSeq (xDrop (xFn x_need_rings (xCons (xVar 0) xNil))) (xSeq (xDrop (xFn x_need_counts (xCons (xVar 0) (xCons (xVar 1) (xCons (xVar 2) xNil))))) (xSeq (xRet (xFn y_sure_many (xCons (xFn x_size (xCons (xVar 0) xNil)) (xCons (xVar 1) (xCons (xVar 2) xNil))))) xsNil)))
theorem simy_sure_number : SimF (S := S) f_sure_number y_sure_number := s_def fun ex => (s_seq (s_drop (s_call sim_need_rings (s_cons (s_var 0) s_nil))) (s_seq (s_drop (s_call sim_need_counts (s_cons (s_var 0) (s_cons (s_var 1) (s_cons (s_var 2) s_nil))))) (s_seq (s_ret (s_call simy_sure_many (s_cons (s_call sim_size (s_cons (s_var 0) s_nil)) (s_cons (s_var 1) (s_cons (s_var 2) s_nil))))) s_snil)))

def y_law_sure : List D → Option D := xDef 4 (xSeq (xSet 3 (xBin xoAdd (xBin xoSub (xBin xoAdd (xBor 0) (xC (.int 1))) (xFn (look tab) (xCons (xVar 0) (xCons (xFn xfMin2 (xCons (xBin xoMul (xC (.int 2)) (xBor 1)) (xCons (xBor 0) xNil))) xNil)))) (xBin xoMul (xC (.int 2)) (xBor 2)))) (xSeq (xRet (xIf (xCmp xoLe (xBor 3) (xBor 0)) (xVar 3) (xC .non))) xsNil))
theorem simy_law_sure : SimF (S := S) f_law_sure y_law_sure := s_def fun ex => (s_seq (s_set (s_bin s_add (s_bin s_sub (s_bin s_add (s_bor 0) (s_c (.int 1))) (s_call simt_law_least (s_cons (s_var 0) (s_cons (s_fn s_min2 (s_cons (s_bin s_mul (s_c (.int 2)) (s_bor 1)) (s_cons (s_bor 0) s_nil))) s_nil)))) (s_bin s_mul (s_c (.int 2)) (s_bor 2)))) (s_seq (s_ret (s_if (s_cmp s_le (s_bor 3) (s_bor 0)) (s_var 3) (s_c .non))) s_snil))

end K31

end
section
set_option autoImplicit false
set_option linter.all false
set_option maxRecDepth 1000000
set_option maxHeartbeats 0
namespace K31
open PySem L2 DL PyProof.Rows
def ring (ns : List Int) : D := .tup (ns.map .int)
def rings12 : List D := [ring [4], ring [5], ring [6], ring [2, 2], ring [3], ring [2, 3], ring [5], ring [6], ring [2], ring [3, 2], ring [4], ring [5]]
def rings4 : List D := [ring [7], ring [8], ring [2, 4], ring [2, 2, 2]]
def rings3 : List D := [ring [6], ring [2, 3], ring [5]]
def rings14 : List D := [ring [6], ring [12], ring [2, 4], ring [7], ring [60], ring [3, 3], ring [30, 2], ring [36], ring [59], ring [4, 15], ring [2, 3, 5], ring [50], ring [8], ring [13]]
abbrev PickOk (FP : FS Hp) : Prop := ∀ {s : Hp} {a : Addr} {xs : List D} {Q ex : D → Hp → Prop}, Dk s a → 0 < xs.length → xs.length < 1000 → (∀ x ∈ xs, ∀ s', Dk s' a → Q x s') → FP [.obj a, .lst xs] s Q ex
abbrev SomeOk (FO : FS Hp) : Prop := ∀ {s : Hp} {a : Addr} {xs : List D} {m : Int} {Q ex : D → Hp → Prop}, Dk s a → xs.length ≤ 1000 → 0 ≤ m → m ≤ xs.length → (∀ zs ∈ combs m.toNat xs, ∀ s', Dk s' a → Q (.lst zs) s') → FO [.obj a, .lst xs, .int m] s Q ex
mutual
theorem small_same : ∀ (n : Nat) (d : D), small n d = true → same d d = true
  | n, .non, h => by simp [same]
  | n, .bl b, h => by simp [same]
  | n, .int i, h => by simp [same]
  | n, .str x, h => by cases n <;> simp [small] at h
  | 0, .tup xs, h => by simp [small] at h
  | n + 1, .tup xs, h => by
    have h' : (decide (xs.length ≤ 40) && smalls n xs) = true := by simpa [small] using h
    rw [Bool.and_eq_true] at h'
    simpa [same] using smalls_same n xs h'.2
  | 0, .lst xs, h => by simp [small] at h
  | n + 1, .lst xs, h => by
    have h' : (decide (xs.length ≤ 40) && smalls n xs) = true := by simpa [small] using h
    rw [Bool.and_eq_true] at h'
    simpa [same] using smalls_same n xs h'.2
  | n, .ty _, h => by cases n <;> simp [small] at h
  | n, .obj _, h => by cases n <;> simp [small] at h
  | n, .scr _, h => by cases n <;> simp [small] at h
  | n, .dK _, h => by cases n <;> simp [small] at h
  | n, .dT _, h => by cases n <;> simp [small] at h
theorem smalls_same : ∀ (n : Nat) (ds : List D), smalls n ds = true → sames ds ds = true
  | n, [], _ => rfl
  | n, d :: ds, h => by
    have h' : (small n d && smalls n ds) = true := by simpa [smalls] using h
    rw [Bool.and_eq_true] at h'
    simp only [sames, small_same n d h'.1, smalls_same n ds h'.2, Bool.and_self]
end
theorem tiny_gen {FP FF : FS Hp} {XF : List D → Option D} (hP : PickOk FP) (sF : SimF FF XF) {s : Hp} {a : Addr} {Q ex : D → Hp → Prop} (hd : Dk s a) (h : ∀ x ∈ rings12 ++ rings4, ∃ d, XF [x] = some d ∧ ∀ s', Dk s' a → Q d s') :
    (sSeq (sSet 1 (eLst (aCons (eTup (aCons (eC (.int 4)) aNil)) (aCons (eTup (aCons (eC (.int 5)) aNil)) (aCons (eTup (aCons (eC (.int 6)) aNil)) (aCons (eTup (aCons (eC (.int 2)) (aCons (eC (.int 2)) aNil))) (aCons (eTup (aCons (eC (.int 3)) aNil)) (aCons (eTup (aCons (eC (.int 2)) (aCons (eC (.int 3)) aNil))) (aCons (eTup (aCons (eC (.int 5)) aNil)) (aCons (eTup (aCons (eC (.int 6)) aNil)) (aCons (eTup (aCons (eC (.int 2)) aNil)) (aCons (eTup (aCons (eC (.int 3)) (aCons (eC (.int 2)) aNil))) (aCons (eTup (aCons (eC (.int 4)) aNil)) (aCons (eTup (aCons (eC (.int 5)) aNil)) aNil)))))))))))))) (sSeq (sRet (eCall FF ex (aCons (eIf (tCmp opGt (eCall E0.draw ex (aCons (eVar 0) (aCons (eC (.int 6)) aNil))) (eC (.int 0))) (eCall FP ex (aCons (eVar 0) (aCons (eVar 1) aNil))) (eCall FP ex (aCons (eVar 0) (aCons (eLst (aCons (eTup (aCons (eC (.int 7)) aNil)) (aCons (eTup (aCons (eC (.int 8)) aNil)) (aCons (eTup (aCons (eC (.int 2)) (aCons (eC (.int 4)) aNil))) (aCons (eTup (aCons (eC (.int 2)) (aCons (eC (.int 2)) (aCons (eC (.int 2)) aNil)))) aNil))))) aNil)))) aNil))) sNil)) { nx := fun _ s1 => Q .non s1, rt := Q } [.val (.obj a), .no] s := by
  have one : ∀ x ∈ rings12 ++ rings4, ∀ s', Dk s' a → FF [x] s' Q ex := fun x hx s' hd' => by
    obtain ⟨d, e, q⟩ := h x hx
    exact sF _ _ _ _ _ e (q s' hd')
  refine And.intro (by decide) ?_
  iterate 12 refine And.intro (by decide) ?_
  refine And.intro hd (And.intro (by decide) (And.intro (by decide) fun r s' h0 h1 hd' => ?_))
  show if decide (0 < r) = true then _ else _
  by_cases hr : 0 < r
  · rw [if_pos (decide_eq_true hr)]
    exact hP (xs := rings12) hd' (by decide) (by decide) fun x hx s2 hd2 => one x (List.mem_append_left _ hx) s2 hd2
  · rw [if_neg (by simpa using hr)]
    iterate 5 refine And.intro (by decide) ?_
    exact hP (xs := rings4) hd' (by decide) (by decide) fun x hx s2 hd2 => one x (List.mem_append_right _ hx) s2 hd2
/-- a small floor, by programs -/
def FlOk (YS YL YD : List D → Option D) (YR : XS) (d : D) : Prop := ∃ rg n ps, xoDget d (.str "rings") = some rg ∧ xoDget d (.str "n") = some (.int n) ∧ xoDget d (.str "places") = some (.lst ps) ∧ 0 < n ∧ n ≤ 6 ∧ ps.length ≤ 6 ∧
  ∀ k : Int, 1 ≤ k → k ≤ (if 3 < n then 2 else 1) → ∀ e ∈ ([0, 1] : List Int), ∃ su, YS [rg, .int k, .int e] = some su ∧ YL [.int n, .int k, .int e] = some su ∧ small 3 su = true ∧
    ((su = .non ∧ YD [rg, .tup ps, .int k, .int e] = some (.bl false)) ∨
      ∃ m : Int, su = .int m ∧ 0 ≤ m ∧ m ≤ ps.length ∧ ∀ zs ∈ combs m.toNat ps, YD [rg, .tup zs, .int k, .int e] = some (.bl true) ∧ ∀ v0 v7, YR [v0, .val d, .val rg, .val (.int n), .val (.int k), .val (.int e), .val su, v7, .no] = some (.rt (.bl true)))
theorem small_tail {FP FO FS FL FD : DL.FS Hp} {YS YL YD : List D → Option D} {TR : DL.TS Hp} {YR : DL.XS} (hP : PickOk FP) (hO : SomeOk FO) (sS : SimF FS YS) (sL : SimF FL YL) (sD : SimF FD YD) (sR : SimS TR YR)
    {s : Hp} {a : Addr} {d : D} {Q ex : D → Hp → Prop} (hd : Dk s a) (ok : FlOk YS YL YD YR d) (hq : ∀ s', Q (.bl true) s') :
    (sSeq (sPar (.val 2 (eBin opDget (eBor 1) (eC (.str "rings"))) (.val 3 (eBin opDget (eBor 1) (eC (.str "n"))) .nil))) (sSeq (sPar (.val 4 (eBin opAdd (eC (.int 1)) (eCall E0.draw ex (aCons (eVar 0) (aCons (eIf (tCmp opGt (eBor 3) (eC (.int 3))) (eC (.int 2)) (eC (.int 1))) aNil)))) (.val 5 (eCall FP ex (aCons (eVar 0) (aCons (eLst (aCons (eC (.int 0)) (aCons (eC (.int 0)) (aCons (eC (.int 1)) aNil)))) aNil))) .nil))) (sSeq (sSet 6 (eCall FS ex (aCons (eVar 2) (aCons (eVar 4) (aCons (eVar 5) aNil))))) (sSeq (sIf (tCmp opNe (eFn fnRepr (aCons (eBor 6) aNil)) (eFn fnRepr (aCons (eCall FL ex (aCons (eVar 3) (aCons (eVar 4) (aCons (eVar 5) aNil)))) aNil))) (sSeq (sRet (eC (.bl false))) sNil) sNil) (sSeq (sIf (tCmp opIsN (eBor 6) (eC .non)) (sSeq (sRet (eBin opIsB (eCall FD ex (aCons (eVar 2) (aCons (eFn fnTuple (aCons (eBin opDget (eBor 1) (eC (.str "places"))) aNil)) (aCons (eVar 4) (aCons (eVar 5) aNil))))) (eC (.bl false)))) sNil) sNil) (sSeq (sSet 7 (eFn fnTuple (aCons (eCall FO ex (aCons (eVar 0) (aCons (eBin opDget (eBor 1) (eC (.str "places"))) (aCons (eVar 6) aNil)))) aNil))) (sSeq (sIf (tCmp opIsNotB (eCall FD ex (aCons (eVar 2) (aCons (eVar 7) (aCons (eVar 4) (aCons (eVar 5) aNil))))) (eC (.bl true))) (sSeq (sRet (eC (.bl false))) sNil) sNil) TR))))))) { nx := fun _ s1 => Q .non s1, rt := Q } [.val (.obj a), .val d, .no, .no, .no, .no, .no, .no, .no] s := by
  obtain ⟨rg, n, ps, e1, e2, e3, n0, n6, pl, hk⟩ := ok
  refine s_dget _ _ _ _ e1 (s_dget _ _ _ _ e2 ?_)
  show if decide (3 < n) = true then _ else _
  have rest : ∀ (k e : Int) (s1 : Hp), 1 ≤ k → k ≤ (if 3 < n then 2 else 1) → e ∈ ([0, 1] : List Int) → Dk s1 a → (sSeq (sSet 6 (eCall FS ex (aCons (eVar 2) (aCons (eVar 4) (aCons (eVar 5) aNil))))) (sSeq (sIf (tCmp opNe (eFn fnRepr (aCons (eBor 6) aNil)) (eFn fnRepr (aCons (eCall FL ex (aCons (eVar 3) (aCons (eVar 4) (aCons (eVar 5) aNil)))) aNil))) (sSeq (sRet (eC (.bl false))) sNil) sNil) (sSeq (sIf (tCmp opIsN (eBor 6) (eC .non)) (sSeq (sRet (eBin opIsB (eCall FD ex (aCons (eVar 2) (aCons (eFn fnTuple (aCons (eBin opDget (eBor 1) (eC (.str "places"))) aNil)) (aCons (eVar 4) (aCons (eVar 5) aNil))))) (eC (.bl false)))) sNil) sNil) (sSeq (sSet 7 (eFn fnTuple (aCons (eCall FO ex (aCons (eVar 0) (aCons (eBin opDget (eBor 1) (eC (.str "places"))) (aCons (eVar 6) aNil)))) aNil))) (sSeq (sIf (tCmp opIsNotB (eCall FD ex (aCons (eVar 2) (aCons (eVar 7) (aCons (eVar 4) (aCons (eVar 5) aNil))))) (eC (.bl true))) (sSeq (sRet (eC (.bl false))) sNil) sNil) TR))))) { nx := fun _ s1 => Q .non s1, rt := Q } [.val (.obj a), .val d, .val rg, .val (.int n), .val (.int k), .val (.int e), .no, .no, .no] s1 := fun k e s1 k1 k2 he hd1 => by
    obtain ⟨su, q1, q2, q3, q4⟩ := hk k k1 k2 e he
    refine sS _ _ _ _ _ q1 ?_
    refine (s_reprNe (s_bor 6) (s_call sL (s_cons (s_var 3) (s_cons (s_var 4) (s_cons (s_var 5) s_nil))))) [.val (.obj a), .val d, .val rg, .val (.int n), .val (.int k), .val (.int e), .val su, .no, .no] s1 _ false ?_ ?_
    · show (match YL [.int n, .int k, .int e] with | some y => if small 3 su = true ∧ same su y = true then some false else none | none => none) = some false
      rw [q2]
      show (if small 3 su = true ∧ same su su = true then some false else none) = some false
      rw [if_pos ⟨q3, small_same 3 su q3⟩]
    · show (if false = true then _ else _)
      rw [if_neg Bool.false_ne_true]
      rcases q4 with ⟨rfl, q4⟩ | ⟨m, rfl, m0, m1, q4⟩
      · refine s_dget _ _ _ _ e3 ?_
        refine sD _ _ _ _ _ q4 ?_
        exact hq s1
      · refine s_dget _ _ _ _ e3 ?_
        refine hO hd1 (by omega) m0 m1 fun zs hz s2 hd2 => ?_
        obtain ⟨q5, q6⟩ := q4 zs hz
        refine sD _ _ _ _ _ q5 ?_
        exact sR _ _ _ _ (q6 _ _) (hq s2)
  have draw : ∀ b : Int, 0 < b → b ≤ 2 → b = (if 3 < n then 2 else 1) → E0.draw [.obj a, .int b] s (fun z s1 => opAdd (.int 1) z fun z2 => ([.int 0, .int 0, .int 1] : List D).length ≤ line ∧ FP [.obj a, .lst [.int 0, .int 0, .int 1]] s1 (fun e s2 => (sSeq (sSet 6 (eCall FS ex (aCons (eVar 2) (aCons (eVar 4) (aCons (eVar 5) aNil))))) (sSeq (sIf (tCmp opNe (eFn fnRepr (aCons (eBor 6) aNil)) (eFn fnRepr (aCons (eCall FL ex (aCons (eVar 3) (aCons (eVar 4) (aCons (eVar 5) aNil)))) aNil))) (sSeq (sRet (eC (.bl false))) sNil) sNil) (sSeq (sIf (tCmp opIsN (eBor 6) (eC .non)) (sSeq (sRet (eBin opIsB (eCall FD ex (aCons (eVar 2) (aCons (eFn fnTuple (aCons (eBin opDget (eBor 1) (eC (.str "places"))) aNil)) (aCons (eVar 4) (aCons (eVar 5) aNil))))) (eC (.bl false)))) sNil) sNil) (sSeq (sSet 7 (eFn fnTuple (aCons (eCall FO ex (aCons (eVar 0) (aCons (eBin opDget (eBor 1) (eC (.str "places"))) (aCons (eVar 6) aNil)))) aNil))) (sSeq (sIf (tCmp opIsNotB (eCall FD ex (aCons (eVar 2) (aCons (eVar 7) (aCons (eVar 4) (aCons (eVar 5) aNil))))) (eC (.bl true))) (sSeq (sRet (eC (.bl false))) sNil) sNil) TR))))) { nx := fun _ s1 => Q .non s1, rt := Q } [.val (.obj a), .val d, .val rg, .val (.int n), .val z2, .val e, .no, .no, .no] s2) ex) ex := fun b b0 b2 hb => by
    refine And.intro hd (And.intro b0 (And.intro (by omega) fun r s1 r0 r1 hd1 => ?_))
    refine And.intro (by decide) (hP hd1 (by decide) (by decide) fun x hx s2 hd2 => ?_)
    have he : ∃ e : Int, x = .int e ∧ e ∈ ([0, 1] : List Int) := by
      simp only [List.mem_cons, List.not_mem_nil, or_false] at hx
      rcases hx with rfl | rfl | rfl
      · exact ⟨0, rfl, by simp⟩
      · exact ⟨0, rfl, by simp⟩
      · exact ⟨1, rfl, by simp⟩
    obtain ⟨e, rfl, he⟩ := he
    exact rest (1 + r) e s2 (by omega) (by rw [← hb]; omega) he hd2
  by_cases h3 : 3 < n
  · rw [if_pos (decide_eq_true h3)]
    exact draw 2 (by decide) (by decide) (by rw [if_pos h3])
  · rw [if_neg (by simpa using h3)]
    exact draw 1 (by decide) (by decide) (by rw [if_neg h3])
theorem small_gen {FP FO FS FL FD FF FT : DL.FS Hp} {YS YL YD YF : List D → Option D} {TR : DL.TS Hp} {YR : DL.XS} (hP : PickOk FP) (hO : SomeOk FO) (sS : SimF FS YS) (sL : SimF FL YL) (sD : SimF FD YD) (sF : SimF FF YF) (sR : SimS TR YR)
    (hT : ∀ {s : Hp} {a : Addr} {Q ex : D → Hp → Prop}, Dk s a → (∀ x ∈ rings12 ++ rings4, ∃ d, YF [x] = some d ∧ ∀ s', Dk s' a → Q d s') → FT [.obj a] s Q ex)
    {s : Hp} {a : Addr} {Q ex : D → Hp → Prop} (hd : Dk s a) (h16 : ∀ x ∈ rings12 ++ rings4, ∃ d n, YF [x] = some d ∧ xoDget d (.str "n") = some (.int n) ∧ (n > 6 ∨ (¬ n > 6 ∧ FlOk YS YL YD YR d))) (h3 : ∀ x ∈ rings3, ∃ d, YF [x] = some d ∧ FlOk YS YL YD YR d) (hq : ∀ s', Q (.bl true) s') :
    (sSeq (sSet 1 (eCall FT ex (aCons (eVar 0) aNil))) (sSeq (sIf (tCmp opGt (eBin opDget (eBor 1) (eC (.str "n"))) (eC (.int 6))) (sSeq (sSet 1 (eCall FF ex (aCons (eCall FP ex (aCons (eVar 0) (aCons (eLst (aCons (eTup (aCons (eC (.int 6)) aNil)) (aCons (eTup (aCons (eC (.int 2)) (aCons (eC (.int 3)) aNil))) (aCons (eTup (aCons (eC (.int 5)) aNil)) aNil)))) aNil))) aNil))) sNil) sNil) (sSeq (sPar (.val 2 (eBin opDget (eBor 1) (eC (.str "rings"))) (.val 3 (eBin opDget (eBor 1) (eC (.str "n"))) .nil))) (sSeq (sPar (.val 4 (eBin opAdd (eC (.int 1)) (eCall E0.draw ex (aCons (eVar 0) (aCons (eIf (tCmp opGt (eBor 3) (eC (.int 3))) (eC (.int 2)) (eC (.int 1))) aNil)))) (.val 5 (eCall FP ex (aCons (eVar 0) (aCons (eLst (aCons (eC (.int 0)) (aCons (eC (.int 0)) (aCons (eC (.int 1)) aNil)))) aNil))) .nil))) (sSeq (sSet 6 (eCall FS ex (aCons (eVar 2) (aCons (eVar 4) (aCons (eVar 5) aNil))))) (sSeq (sIf (tCmp opNe (eFn fnRepr (aCons (eBor 6) aNil)) (eFn fnRepr (aCons (eCall FL ex (aCons (eVar 3) (aCons (eVar 4) (aCons (eVar 5) aNil)))) aNil))) (sSeq (sRet (eC (.bl false))) sNil) sNil) (sSeq (sIf (tCmp opIsN (eBor 6) (eC .non)) (sSeq (sRet (eBin opIsB (eCall FD ex (aCons (eVar 2) (aCons (eFn fnTuple (aCons (eBin opDget (eBor 1) (eC (.str "places"))) aNil)) (aCons (eVar 4) (aCons (eVar 5) aNil))))) (eC (.bl false)))) sNil) sNil) (sSeq (sSet 7 (eFn fnTuple (aCons (eCall FO ex (aCons (eVar 0) (aCons (eBin opDget (eBor 1) (eC (.str "places"))) (aCons (eVar 6) aNil)))) aNil))) (sSeq (sIf (tCmp opIsNotB (eCall FD ex (aCons (eVar 2) (aCons (eVar 7) (aCons (eVar 4) (aCons (eVar 5) aNil))))) (eC (.bl true))) (sSeq (sRet (eC (.bl false))) sNil) sNil) TR))))))))) { nx := fun _ s1 => Q .non s1, rt := Q } [.val (.obj a), .no, .no, .no, .no, .no, .no, .no, .no] s := by
  refine hT hd fun x hx => ?_
  obtain ⟨d, n, e0, e1, h⟩ := h16 x hx
  refine ⟨d, e0, fun s1 hd1 => ?_⟩
  refine s_dget _ _ _ _ e1 ?_
  show if decide (n > 6) = true then _ else _
  rcases h with h | ⟨h, ok⟩
  · rw [if_pos (decide_eq_true h)]
    iterate 4 refine And.intro (by decide) ?_
    refine (hP (xs := rings3) hd1 (by decide) (by decide) fun y hy s2 hd2 => ?_)
    obtain ⟨d2, e2, ok⟩ := h3 y hy
    refine sF _ _ _ _ _ e2 ?_
    exact small_tail hP hO sS sL sD sR hd2 ok hq
  · rw [if_neg (by simpa using h)]
    exact small_tail hP hO sS sL sD sR hd1 ok hq
end K31
namespace K31
open PySem L2 DL PyProof.Rows
def xNs : DL.XS := (xFor (xiOf (xVar 3)) (.nm 5) (xSeq (xSet 4 (xBin xoMul (xBor 4) (xBor 5))) xsNil))
theorem simNs : SimS (S := Hp) (sFor (iOf (eVar 3)) (.nm 5) (sSeq (sSet 4 (eBin opMulI (eBor 4) (eBor 5))) sNil)) xNs := (s_for (s_iof (s_var 3)) (s_seq (s_set (s_bin s_mul (s_bor 4) (s_bor 5))) s_snil))
/-- rings of the law's three goes, by programs -/
def LwOk (YS YL : List D → Option D) (x : D) : Prop := ∃ ls n l, x = .tup ls ∧ 0 < n ∧ n ≤ 60 ∧ (∀ v0 v1 v2 c5 c6 c7 c8, xNs [v0, v1, v2, .val x, .val (.int 1), c5, c6, c7, c8] = some (.nx [v0, v1, v2, .val x, .val (.int n), .val l, c6, c7, c8])) ∧
  ∀ k : Int, 1 ≤ k → k ≤ n → ∀ e ∈ ([0, 1, 2, n, 100000000000000000000] : List Int), ∃ su, YS [.tup ls, .int k, .int e] = some su ∧ YS [.tup ls.reverse, .int k, .int e] = some su ∧ YL [.int n, .int k, .int e] = some su ∧ small 2 su = true
theorem law_body {FP FS FL : DL.FS Hp} {YS YL : List D → Option D} (hP : PickOk FP) (sS : SimF FS YS) (sL : SimF FL YL) (h14 : ∀ x ∈ rings14, LwOk YS YL x) {a : Addr} {ex : D → Hp → Prop} (v0 v2 c3 c4 c5 c6 c7 c8 : Sl) {s : Hp} (hd : Dk s a) (K : KE Hp)
    (hn : ∀ c3 c4 c5 c6 c7 c8 s', Dk s' a → K.nx [v0, .val (.obj a), v2, c3, c4, c5, c6, c7, c8] s') :
    (sSeq (sSet 3 (eCall FP ex (aCons (eVar 1) (aCons (eLst (aCons (eTup (aCons (eC (.int 6)) aNil)) (aCons (eTup (aCons (eC (.int 12)) aNil)) (aCons (eTup (aCons (eC (.int 2)) (aCons (eC (.int 4)) aNil))) (aCons (eTup (aCons (eC (.int 7)) aNil)) (aCons (eTup (aCons (eC (.int 60)) aNil)) (aCons (eTup (aCons (eC (.int 3)) (aCons (eC (.int 3)) aNil))) (aCons (eTup (aCons (eC (.int 30)) (aCons (eC (.int 2)) aNil))) (aCons (eTup (aCons (eC (.int 36)) aNil)) (aCons (eTup (aCons (eC (.int 59)) aNil)) (aCons (eTup (aCons (eC (.int 4)) (aCons (eC (.int 15)) aNil))) (aCons (eTup (aCons (eC (.int 2)) (aCons (eC (.int 3)) (aCons (eC (.int 5)) aNil)))) (aCons (eTup (aCons (eC (.int 50)) aNil)) (aCons (eTup (aCons (eC (.int 8)) aNil)) (aCons (eTup (aCons (eC (.int 13)) aNil)) aNil))))))))))))))) aNil)))) (sSeq (sSet 4 (eC (.int 1))) (sSeq (sFor (iOf (eVar 3)) (.nm 5) (sSeq (sSet 4 (eBin opMulI (eBor 4) (eBor 5))) sNil)) (sSeq (sPar (.val 6 (eBin opAdd (eC (.int 1)) (eCall E0.draw ex (aCons (eVar 1) (aCons (eVar 4) aNil)))) (.val 7 (eCall FP ex (aCons (eVar 1) (aCons (eLst (aCons (eC (.int 0)) (aCons (eC (.int 1)) (aCons (eC (.int 0)) (aCons (eC (.int 2)) (aCons (eVar 4) (aCons (eBin opPow (eC (.int 10)) (eC (.int 20))) aNil))))))) aNil))) .nil))) (sSeq (sSet 6 (eIf (tCmp opEq (eCall E0.draw ex (aCons (eVar 1) (aCons (eC (.int 2)) aNil))) (eC (.int 0))) (eFn fnMin2 (aCons (eBor 6) (aCons (eBin opAdd (eC (.int 1)) (eCall E0.draw ex (aCons (eVar 1) (aCons (eC (.int 4)) aNil)))) aNil))) (eVar 6))) (sSeq (sSet 8 (eLst (aCons (eCall FS ex (aCons (eVar 3) (aCons (eVar 6) (aCons (eVar 7) aNil)))) (aCons (eCallK FS ex (pick [2, 1, 0]) (aApp aNil (aCons (eVar 7) (aCons (eVar 6) (aCons (eVar 3) aNil))))) (aCons (eCall FS ex (aCons (eRevT (eBor 3)) (aCons (eVar 6) (aCons (eVar 7) aNil)))) aNil))))) (sSeq (sIf (tCmp opNe (eFn fnRepr (aCons (eBor 8) aNil)) (eFn fnRepr (aCons (eBin opRep (eLst (aCons (eCall FL ex (aCons (eVar 4) (aCons (eVar 6) (aCons (eVar 7) aNil)))) aNil)) (eC (.int 3))) aNil))) (sSeq (sRet (eC (.bl false))) sNil) sNil) sNil))))))) K [v0, .val (.obj a), v2, c3, c4, c5, c6, c7, c8] s := by
  have ending : ∀ (ls : List D) (n k e : Int) (l : D) (s1 : Hp), 1 ≤ k → k ≤ n → e ∈ ([0, 1, 2, n, 100000000000000000000] : List Int) → Dk s1 a → (∃ su, YS [.tup ls, .int k, .int e] = some su ∧ YS [.tup ls.reverse, .int k, .int e] = some su ∧ YL [.int n, .int k, .int e] = some su ∧ small 2 su = true) →
      (sSeq (sSet 8 (eLst (aCons (eCall FS ex (aCons (eVar 3) (aCons (eVar 6) (aCons (eVar 7) aNil)))) (aCons (eCallK FS ex (pick [2, 1, 0]) (aApp aNil (aCons (eVar 7) (aCons (eVar 6) (aCons (eVar 3) aNil))))) (aCons (eCall FS ex (aCons (eRevT (eBor 3)) (aCons (eVar 6) (aCons (eVar 7) aNil)))) aNil))))) (sSeq (sIf (tCmp opNe (eFn fnRepr (aCons (eBor 8) aNil)) (eFn fnRepr (aCons (eBin opRep (eLst (aCons (eCall FL ex (aCons (eVar 4) (aCons (eVar 6) (aCons (eVar 7) aNil)))) aNil)) (eC (.int 3))) aNil))) (sSeq (sRet (eC (.bl false))) sNil) sNil) sNil)) K [v0, .val (.obj a), v2, .val (.tup ls), .val (.int n), .val l, .val (.int k), .val (.int e), c8] s1 := by
    intro ls n k e l s1 k1 k2 he hd1 ⟨su, q1, q2, q3, q4⟩
    have sm : small 3 (.lst [su, su, su]) = true := by
      show (decide (3 ≤ 40) && (small 2 su && (small 2 su && (small 2 su && true)))) = true
      rw [q4]; rfl
    refine sS _ _ _ _ _ q1 (sS _ _ _ _ _ q1 (sS _ _ _ _ _ q2 (And.intro (show 3 ≤ line by decide) ?_)))
    have eb : (xBin xoRep (xLst (xCons (xFn YL (xCons (xVar 4) (xCons (xVar 6) (xCons (xVar 7) xNil)))) xNil)) (xC (.int 3))) [v0, .val (.obj a), v2, .val (.tup ls), .val (.int n), .val l, .val (.int k), .val (.int e), .val (.lst [su, su, su])] = some (.lst [su, su, su]) := by
      simp [xBin, xLst, xCons, xNil, xFn, xVar, xC, xoRep, q3, line, List.replicate]
    refine (s_reprNe (s_bor 8) (s_bin s_rep (s_lst (s_cons (s_call sL (s_cons (s_var 4) (s_cons (s_var 6) (s_cons (s_var 7) s_nil)))) s_nil)) (s_c (.int 3)))) [v0, .val (.obj a), v2, .val (.tup ls), .val (.int n), .val l, .val (.int k), .val (.int e), .val (.lst [su, su, su])] s1 _ false ?_ ?_
    · unfold xReprNe
      rw [eb]
      show (if small 3 (.lst [su, su, su]) = true ∧ same (.lst [su, su, su]) (.lst [su, su, su]) = true then some false else none) = some false
      rw [if_pos ⟨sm, small_same 3 _ sm⟩]
    · exact hn _ _ _ _ _ _ s1 hd1
  iterate 15 refine And.intro (by decide) ?_
  refine hP (xs := rings14) hd (by decide) (by decide) fun x hx s1 hd1 => ?_
  obtain ⟨ls, n, l, rfl, n0, n1, hN, hk⟩ := h14 x hx
  refine simNs _ [v0, .val (.obj a), v2, .val (.tup ls), .val (.int 1), c5, c6, c7, c8] s1 _ (hN _ _ _ _ _ _ _) ?_
  refine And.intro hd1 (And.intro n0 (And.intro (by omega) fun r s2 r0 r1 hd2 => ?_))
  have p20 : xoPow (.int 10) (.int 20) = some (.int 100000000000000000000) := by kernel_rfl
  have step : ∀ k : D → Prop, k (.int 100000000000000000000) → opPow (.int 10) (.int 20) k := fun k h => s_pow (.int 10) (.int 20) k (.int 100000000000000000000) p20 h
  generalize opPow = G at step ⊢
  refine step _ ?_
  refine And.intro (show 6 ≤ line by decide) (hP hd2 (show 0 < 6 by decide) (show 6 < 1000 by decide) fun y hy s3 hd3 => ?_)
  have he : ∃ e : Int, y = .int e ∧ e ∈ ([0, 1, 2, n, 100000000000000000000] : List Int) := by
    simp only [List.mem_cons, List.not_mem_nil, or_false] at hy
    rcases hy with rfl | rfl | rfl | rfl | rfl | rfl
    · exact ⟨0, rfl, by simp⟩
    · exact ⟨1, rfl, by simp⟩
    · exact ⟨0, rfl, by simp⟩
    · exact ⟨2, rfl, by simp⟩
    · exact ⟨n, rfl, by simp⟩
    · exact ⟨_, rfl, by simp⟩
  obtain ⟨e, rfl, he⟩ := he
  refine And.intro hd3 (And.intro (by decide) (And.intro (by decide) fun r2 s4 _ _ hd4 => ?_))
  show if decide (r2 = 0) = true then _ else _
  by_cases h2 : r2 = 0
  · rw [if_pos (decide_eq_true h2)]
    refine And.intro hd4 (And.intro (by decide) (And.intro (by decide) fun r3 s5 r30 r31 hd5 => ?_))
    have kb : 1 ≤ (if 1 + r3 < 1 + r then 1 + r3 else 1 + r) ∧ (if 1 + r3 < 1 + r then 1 + r3 else 1 + r) ≤ n := by split <;> omega
    exact ending ls n _ e l s5 kb.1 kb.2 he hd5 (hk _ kb.1 kb.2 e he)
  · rw [if_neg (by simpa using h2)]
    exact ending ls n _ e l s4 (by omega) (by omega) he hd4 (hk _ (by omega) (by omega) e he)
theorem law_gen {FP FS FL FSm : DL.FS Hp} {YS YL : List D → Option D} (hP : PickOk FP) (sS : SimF FS YS) (sL : SimF FL YL) (h14 : ∀ x ∈ rings14, LwOk YS YL x)
    (hSm : ∀ {s : Hp} {a : Addr} {Q ex : D → Hp → Prop}, Dk s a → (∀ s', Q (.bl true) s') → FSm [.obj a] s Q ex) (ns : List Int) (ex : D → Hp → Prop) :
    (sSeq (sSet 1 (eCall E0.deck ex (aCons (eVar 0) aNil))) (sSeq (sFor (iRng (aCons (eC (.int 3)) aNil)) (.nm 2) (sSeq (sSet 3 (eCall FP ex (aCons (eVar 1) (aCons (eLst (aCons (eTup (aCons (eC (.int 6)) aNil)) (aCons (eTup (aCons (eC (.int 12)) aNil)) (aCons (eTup (aCons (eC (.int 2)) (aCons (eC (.int 4)) aNil))) (aCons (eTup (aCons (eC (.int 7)) aNil)) (aCons (eTup (aCons (eC (.int 60)) aNil)) (aCons (eTup (aCons (eC (.int 3)) (aCons (eC (.int 3)) aNil))) (aCons (eTup (aCons (eC (.int 30)) (aCons (eC (.int 2)) aNil))) (aCons (eTup (aCons (eC (.int 36)) aNil)) (aCons (eTup (aCons (eC (.int 59)) aNil)) (aCons (eTup (aCons (eC (.int 4)) (aCons (eC (.int 15)) aNil))) (aCons (eTup (aCons (eC (.int 2)) (aCons (eC (.int 3)) (aCons (eC (.int 5)) aNil)))) (aCons (eTup (aCons (eC (.int 50)) aNil)) (aCons (eTup (aCons (eC (.int 8)) aNil)) (aCons (eTup (aCons (eC (.int 13)) aNil)) aNil))))))))))))))) aNil)))) (sSeq (sSet 4 (eC (.int 1))) (sSeq (sFor (iOf (eVar 3)) (.nm 5) (sSeq (sSet 4 (eBin opMulI (eBor 4) (eBor 5))) sNil)) (sSeq (sPar (.val 6 (eBin opAdd (eC (.int 1)) (eCall E0.draw ex (aCons (eVar 1) (aCons (eVar 4) aNil)))) (.val 7 (eCall FP ex (aCons (eVar 1) (aCons (eLst (aCons (eC (.int 0)) (aCons (eC (.int 1)) (aCons (eC (.int 0)) (aCons (eC (.int 2)) (aCons (eVar 4) (aCons (eBin opPow (eC (.int 10)) (eC (.int 20))) aNil))))))) aNil))) .nil))) (sSeq (sSet 6 (eIf (tCmp opEq (eCall E0.draw ex (aCons (eVar 1) (aCons (eC (.int 2)) aNil))) (eC (.int 0))) (eFn fnMin2 (aCons (eBor 6) (aCons (eBin opAdd (eC (.int 1)) (eCall E0.draw ex (aCons (eVar 1) (aCons (eC (.int 4)) aNil)))) aNil))) (eVar 6))) (sSeq (sSet 8 (eLst (aCons (eCall FS ex (aCons (eVar 3) (aCons (eVar 6) (aCons (eVar 7) aNil)))) (aCons (eCallK FS ex (pick [2, 1, 0]) (aApp aNil (aCons (eVar 7) (aCons (eVar 6) (aCons (eVar 3) aNil))))) (aCons (eCall FS ex (aCons (eRevT (eBor 3)) (aCons (eVar 6) (aCons (eVar 7) aNil)))) aNil))))) (sSeq (sIf (tCmp opNe (eFn fnRepr (aCons (eBor 8) aNil)) (eFn fnRepr (aCons (eBin opRep (eLst (aCons (eCall FL ex (aCons (eVar 4) (aCons (eVar 6) (aCons (eVar 7) aNil)))) aNil)) (eC (.int 3))) aNil))) (sSeq (sRet (eC (.bl false))) sNil) sNil) sNil)))))))) (sSeq (sRet (eCall FSm ex (aCons (eVar 1) aNil))) sNil))) { nx := fun _ _ => D.non = .bl true, rt := fun v _ => v = .bl true } [.val (.scr (ns.map .int)), .no, .no, .no, .no, .no, .no, .no, .no] (fun _ => none) := by
  refine And.intro ⟨ns, rfl⟩ fun a s1 hd => ?_
  refine And.intro (by decide) (And.intro (by decide) ?_)
  refine law_body hP sS sL h14 _ _ _ _ _ _ _ _ hd _ fun c3 c4 c5 c6 c7 c8 s2 hd2 => ?_
  refine law_body hP sS sL h14 _ _ _ _ _ _ _ _ hd2 _ fun c3 c4 c5 c6 c7 c8 s3 hd3 => ?_
  refine law_body hP sS sL h14 _ _ _ _ _ _ _ _ hd3 _ fun c3 c4 c5 c6 c7 c8 s4 hd4 => ?_
  exact hSm hd4 fun _ => rfl
end K31

end
section
set_option autoImplicit false
set_option linter.all false
set_option maxRecDepth 1000000
set_option maxHeartbeats 0
namespace K31
open PySem L2 DL PyProof.Rows
def xLoop : DL.XS := (xSeq (xFor (xiOf (xFn x_law_lots_of (xCons (xBin xoDget (xBor 1) (xC (.str "places"))) (xCons (xBin xoSub (xBor 6) (xC (.int 1))) xNil)))) (.nm 8) (xSeq (xsIf (xNot (xOf (xFn x_law_tells (xCons (xVar 1) (xCons (xVar 8) (xCons (xVar 4) (xCons (xVar 5) xNil))))))) (xSeq (xRet (xBin xoIsB (xFn (fun ds => x_does_tell ((pick [3, 2, 1, 0]) ds)) (xApp xNil (xCons (xVar 5) (xCons (xVar 4) (xCons (xVar 8) (xCons (xVar 2) xNil)))))) (xC (.bl false)))) xsNil) xsNil) xsNil)) (xSeq (xRet (xC (.bl false))) xsNil))
theorem simLoop (ex : D → Hp → Prop) : SimS (S := Hp) (sSeq (sFor (iOf (eCall f_law_lots_of ex (aCons (eBin opDget (eBor 1) (eC (.str "places"))) (aCons (eBin opSub (eBor 6) (eC (.int 1))) aNil)))) (.nm 8) (sSeq (sIf (tNot (tOf (eCall f_law_tells ex (aCons (eVar 1) (aCons (eVar 8) (aCons (eVar 4) (aCons (eVar 5) aNil))))))) (sSeq (sRet (eBin opIsB (eCallK f_does_tell ex (pick [3, 2, 1, 0]) (aApp aNil (aCons (eVar 5) (aCons (eVar 4) (aCons (eVar 8) (aCons (eVar 2) aNil)))))) (eC (.bl false)))) sNil) sNil) sNil)) (sSeq (sRet (eC (.bl false))) sNil)) xLoop := (s_seq (s_for (s_iof (s_call sim_law_lots_of (s_cons (s_bin s_dget (s_bor 1) (s_c (.str "places"))) (s_cons (s_bin s_sub (s_bor 6) (s_c (.int 1))) s_nil)))) (s_seq (s_sif (s_not (s_of (s_call sim_law_tells (s_cons (s_var 1) (s_cons (s_var 8) (s_cons (s_var 4) (s_cons (s_var 5) s_nil))))))) (s_seq (s_ret (s_bin s_isB (s_callK sim_does_tell (s_app s_nil (s_cons (s_var 5) (s_cons (s_var 4) (s_cons (s_var 8) (s_cons (s_var 2) s_nil)))))) (s_c (.bl false)))) s_snil) s_snil) s_snil)) (s_seq (s_ret (s_c (.bl false))) s_snil))
def upTo : Nat → List Int
  | 0 => []
  | n + 1 => upTo n ++ [((n + 1 : Nat) : Int)]
theorem mem_upTo : ∀ (n : Nat) (k : Int), 1 ≤ k → k ≤ n → k ∈ upTo n
  | 0, k, h1, h2 => by omega
  | n + 1, k, h1, h2 => by
    unfold upTo
    by_cases e : k = ((n + 1 : Nat) : Int)
    · rw [e]; exact List.mem_append_right _ (List.mem_singleton.mpr rfl)
    · exact List.mem_append_left _ (mem_upTo n k h1 (by omega))
def okOne (ls : List D) (n k e : Int) : Bool := match y_sure_number [.tup ls, .int k, .int e], y_sure_number [.tup ls.reverse, .int k, .int e], y_law_sure [.int n, .int k, .int e] with
  | some a, some b, some c => same a b && same a c && small 2 a
  | _, _, _ => false
def okAll (ls : List D) (n : Nat) : Bool := (upTo n).all fun k => [0, 1, 2, (n : Int), 100000000000000000000].all fun e => okOne ls n k e
theorem lw_of {ls : List D} {n : Nat} {l : D} (n0 : 0 < n) (n1 : n ≤ 60) (hN : ∀ v0 v1 v2 c5 c6 c7 c8, xNs [v0, v1, v2, .val (.tup ls), .val (.int 1), c5, c6, c7, c8] = some (.nx [v0, v1, v2, .val (.tup ls), .val (.int n), .val l, c6, c7, c8])) (h : okAll ls n = true) : LwOk y_sure_number y_law_sure (.tup ls) := by
  refine ⟨ls, n, l, rfl, by omega, by omega, hN, fun k k1 k2 e he => ?_⟩
  unfold okAll at h
  rw [List.all_eq_true] at h
  have z := h k (mem_upTo n k k1 k2)
  rw [List.all_eq_true] at z
  have y := z e he
  unfold okOne at y
  split at y
  · rename_i a b c ea eb ec
    rw [Bool.and_eq_true, Bool.and_eq_true] at y
    have e1 := same_eq _ _ y.1.1
    have e2 := same_eq _ _ y.1.2
    subst e1 e2
    exact ⟨a, ea, eb, ec, y.2⟩
  · cases y
def okTell (rg : D) (ps : List D) (k e : Int) (m : Nat) : Bool := (combs m ps).all fun zs => saysTrue (x_does_tell [rg, .tup zs, .int k, .int e])
theorem tell_of {rg : D} {ps : List D} {k e : Int} {m : Nat} (h : okTell rg ps k e m = true) : ∀ zs ∈ combs m ps, x_does_tell [rg, .tup zs, .int k, .int e] = some (.bl true) := fun zs hz => by
  unfold okTell at h
  rw [List.all_eq_true] at h
  exact saysTrue_eq (h zs hz)
theorem lq_6 : okAll [.int 6] 6 = true := by kernel_rfl
theorem lw_6 : LwOk y_sure_number y_law_sure (ring [6]) := lw_of (ls := [.int 6]) (n := 6) (l := .int 6) (by decide) (by decide) (fun _ _ _ _ _ _ _ => by kernel_rfl) lq_6
theorem lq_12 : okAll [.int 12] 12 = true := by kernel_rfl
theorem lw_12 : LwOk y_sure_number y_law_sure (ring [12]) := lw_of (ls := [.int 12]) (n := 12) (l := .int 12) (by decide) (by decide) (fun _ _ _ _ _ _ _ => by kernel_rfl) lq_12
theorem lq_2_4 : okAll [.int 2, .int 4] 8 = true := by kernel_rfl
theorem lw_2_4 : LwOk y_sure_number y_law_sure (ring [2, 4]) := lw_of (ls := [.int 2, .int 4]) (n := 8) (l := .int 4) (by decide) (by decide) (fun _ _ _ _ _ _ _ => by kernel_rfl) lq_2_4
theorem lq_7 : okAll [.int 7] 7 = true := by kernel_rfl
theorem lw_7 : LwOk y_sure_number y_law_sure (ring [7]) := lw_of (ls := [.int 7]) (n := 7) (l := .int 7) (by decide) (by decide) (fun _ _ _ _ _ _ _ => by kernel_rfl) lq_7
theorem lq_60 : okAll [.int 60] 60 = true := by kernel_rfl
theorem lw_60 : LwOk y_sure_number y_law_sure (ring [60]) := lw_of (ls := [.int 60]) (n := 60) (l := .int 60) (by decide) (by decide) (fun _ _ _ _ _ _ _ => by kernel_rfl) lq_60
theorem lq_3_3 : okAll [.int 3, .int 3] 9 = true := by kernel_rfl
theorem lw_3_3 : LwOk y_sure_number y_law_sure (ring [3, 3]) := lw_of (ls := [.int 3, .int 3]) (n := 9) (l := .int 3) (by decide) (by decide) (fun _ _ _ _ _ _ _ => by kernel_rfl) lq_3_3
theorem lq_30_2 : okAll [.int 30, .int 2] 60 = true := by kernel_rfl
theorem lw_30_2 : LwOk y_sure_number y_law_sure (ring [30, 2]) := lw_of (ls := [.int 30, .int 2]) (n := 60) (l := .int 2) (by decide) (by decide) (fun _ _ _ _ _ _ _ => by kernel_rfl) lq_30_2
theorem lq_36 : okAll [.int 36] 36 = true := by kernel_rfl
theorem lw_36 : LwOk y_sure_number y_law_sure (ring [36]) := lw_of (ls := [.int 36]) (n := 36) (l := .int 36) (by decide) (by decide) (fun _ _ _ _ _ _ _ => by kernel_rfl) lq_36
theorem lq_59 : okAll [.int 59] 59 = true := by kernel_rfl
theorem lw_59 : LwOk y_sure_number y_law_sure (ring [59]) := lw_of (ls := [.int 59]) (n := 59) (l := .int 59) (by decide) (by decide) (fun _ _ _ _ _ _ _ => by kernel_rfl) lq_59
theorem lq_4_15 : okAll [.int 4, .int 15] 60 = true := by kernel_rfl
theorem lw_4_15 : LwOk y_sure_number y_law_sure (ring [4, 15]) := lw_of (ls := [.int 4, .int 15]) (n := 60) (l := .int 15) (by decide) (by decide) (fun _ _ _ _ _ _ _ => by kernel_rfl) lq_4_15
theorem lq_2_3_5 : okAll [.int 2, .int 3, .int 5] 30 = true := by kernel_rfl
theorem lw_2_3_5 : LwOk y_sure_number y_law_sure (ring [2, 3, 5]) := lw_of (ls := [.int 2, .int 3, .int 5]) (n := 30) (l := .int 5) (by decide) (by decide) (fun _ _ _ _ _ _ _ => by kernel_rfl) lq_2_3_5
theorem lq_50 : okAll [.int 50] 50 = true := by kernel_rfl
theorem lw_50 : LwOk y_sure_number y_law_sure (ring [50]) := lw_of (ls := [.int 50]) (n := 50) (l := .int 50) (by decide) (by decide) (fun _ _ _ _ _ _ _ => by kernel_rfl) lq_50
theorem lq_8 : okAll [.int 8] 8 = true := by kernel_rfl
theorem lw_8 : LwOk y_sure_number y_law_sure (ring [8]) := lw_of (ls := [.int 8]) (n := 8) (l := .int 8) (by decide) (by decide) (fun _ _ _ _ _ _ _ => by kernel_rfl) lq_8
theorem lq_13 : okAll [.int 13] 13 = true := by kernel_rfl
theorem lw_13 : LwOk y_sure_number y_law_sure (ring [13]) := lw_of (ls := [.int 13]) (n := 13) (l := .int 13) (by decide) (by decide) (fun _ _ _ _ _ _ _ => by kernel_rfl) lq_13
theorem h14 : ∀ x ∈ rings14, LwOk y_sure_number y_law_sure x := by
  intro x hx
  simp only [rings14, List.mem_cons, List.not_mem_nil, or_false] at hx
  rcases hx with rfl | rfl | rfl | rfl | rfl | rfl | rfl | rfl | rfl | rfl | rfl | rfl | rfl | rfl
  · exact lw_6
  · exact lw_12
  · exact lw_2_4
  · exact lw_7
  · exact lw_60
  · exact lw_3_3
  · exact lw_30_2
  · exact lw_36
  · exact lw_59
  · exact lw_4_15
  · exact lw_2_3_5
  · exact lw_50
  · exact lw_8
  · exact lw_13
def fl_4 : D := .dK [(.inr "rings", .tup [.int 4]), (.inr "n", .int 4), (.inr "e", .int 4), (.inr "poly", .lst [.int 1, .int 0, .int 1]), (.inr "places", .lst [.tup [.int 0], .tup [.int 1], .tup [.int 2], .tup [.int 3]])]
theorem fl_4_ok : x_law_floor [ring [4]] = some fl_4 := by kernel_rfl
theorem sn_4_k1_e0 : y_sure_number [ring [4], .int 1, .int 0] = some (.int 3) := by kernel_rfl
theorem sl_4_k1_e0 : y_law_sure [.int 4, .int 1, .int 0] = some (.int 3) := by kernel_rfl
theorem dt_4_k1_e0 : okTell (ring [4]) [.tup [.int 0], .tup [.int 1], .tup [.int 2], .tup [.int 3]] 1 0 3 = true := by kernel_rfl
theorem rs_4_k1_e0 (v0 v7 : Sl) : xLoop [v0, .val fl_4, .val (ring [4]), .val (.int 4), .val (.int 1), .val (.int 0), .val (.int 3), v7, .no] = some (.rt (.bl true)) := by kernel_rfl
theorem sn_4_k1_e1 : y_sure_number [ring [4], .int 1, .int 1] = some .non := by kernel_rfl
theorem sl_4_k1_e1 : y_law_sure [.int 4, .int 1, .int 1] = some .non := by kernel_rfl
theorem dt_4_k1_e1 : x_does_tell [ring [4], .tup [.tup [.int 0], .tup [.int 1], .tup [.int 2], .tup [.int 3]], .int 1, .int 1] = some (.bl false) := by kernel_rfl
theorem sn_4_k2_e0 : y_sure_number [ring [4], .int 2, .int 0] = some (.int 4) := by kernel_rfl
theorem sl_4_k2_e0 : y_law_sure [.int 4, .int 2, .int 0] = some (.int 4) := by kernel_rfl
theorem dt_4_k2_e0 : okTell (ring [4]) [.tup [.int 0], .tup [.int 1], .tup [.int 2], .tup [.int 3]] 2 0 4 = true := by kernel_rfl
theorem rs_4_k2_e0 (v0 v7 : Sl) : xLoop [v0, .val fl_4, .val (ring [4]), .val (.int 4), .val (.int 2), .val (.int 0), .val (.int 4), v7, .no] = some (.rt (.bl true)) := by kernel_rfl
theorem sn_4_k2_e1 : y_sure_number [ring [4], .int 2, .int 1] = some .non := by kernel_rfl
theorem sl_4_k2_e1 : y_law_sure [.int 4, .int 2, .int 1] = some .non := by kernel_rfl
theorem dt_4_k2_e1 : x_does_tell [ring [4], .tup [.tup [.int 0], .tup [.int 1], .tup [.int 2], .tup [.int 3]], .int 2, .int 1] = some (.bl false) := by kernel_rfl
theorem fo_4 : FlOk y_sure_number y_law_sure x_does_tell xLoop fl_4 := by
  refine ⟨ring [4], 4, [.tup [.int 0], .tup [.int 1], .tup [.int 2], .tup [.int 3]], rfl, rfl, rfl, by decide, by decide, by decide, fun k k1 k2 e he => ?_⟩
  have hk : k = 1 ∨ k = 2 := by
    have : k ≤ 2 := k2
    omega
  simp only [List.mem_cons, List.not_mem_nil, or_false] at he
  rcases hk with rfl | rfl <;> rcases he with rfl | rfl
  · exact ⟨_, sn_4_k1_e0, sl_4_k1_e0, rfl, .inr ⟨3, rfl, by decide, by decide, fun zs hz => ⟨tell_of dt_4_k1_e0 zs hz, fun v0 v7 => rs_4_k1_e0 v0 v7⟩⟩⟩
  · exact ⟨_, sn_4_k1_e1, sl_4_k1_e1, rfl, .inl ⟨rfl, dt_4_k1_e1⟩⟩
  · exact ⟨_, sn_4_k2_e0, sl_4_k2_e0, rfl, .inr ⟨4, rfl, by decide, by decide, fun zs hz => ⟨tell_of dt_4_k2_e0 zs hz, fun v0 v7 => rs_4_k2_e0 v0 v7⟩⟩⟩
  · exact ⟨_, sn_4_k2_e1, sl_4_k2_e1, rfl, .inl ⟨rfl, dt_4_k2_e1⟩⟩
def fl_5 : D := .dK [(.inr "rings", .tup [.int 5]), (.inr "n", .int 5), (.inr "e", .int 5), (.inr "poly", .lst [.int 1, .int 1, .int 1, .int 1, .int 1]), (.inr "places", .lst [.tup [.int 0], .tup [.int 1], .tup [.int 2], .tup [.int 3], .tup [.int 4]])]
theorem fl_5_ok : x_law_floor [ring [5]] = some fl_5 := by kernel_rfl
theorem sn_5_k1_e0 : y_sure_number [ring [5], .int 1, .int 0] = some (.int 2) := by kernel_rfl
theorem sl_5_k1_e0 : y_law_sure [.int 5, .int 1, .int 0] = some (.int 2) := by kernel_rfl
theorem dt_5_k1_e0 : okTell (ring [5]) [.tup [.int 0], .tup [.int 1], .tup [.int 2], .tup [.int 3], .tup [.int 4]] 1 0 2 = true := by kernel_rfl
theorem rs_5_k1_e0 (v0 v7 : Sl) : xLoop [v0, .val fl_5, .val (ring [5]), .val (.int 5), .val (.int 1), .val (.int 0), .val (.int 2), v7, .no] = some (.rt (.bl true)) := by kernel_rfl
theorem sn_5_k1_e1 : y_sure_number [ring [5], .int 1, .int 1] = some (.int 4) := by kernel_rfl
theorem sl_5_k1_e1 : y_law_sure [.int 5, .int 1, .int 1] = some (.int 4) := by kernel_rfl
theorem dt_5_k1_e1 : okTell (ring [5]) [.tup [.int 0], .tup [.int 1], .tup [.int 2], .tup [.int 3], .tup [.int 4]] 1 1 4 = true := by kernel_rfl
theorem rs_5_k1_e1 (v0 v7 : Sl) : xLoop [v0, .val fl_5, .val (ring [5]), .val (.int 5), .val (.int 1), .val (.int 1), .val (.int 4), v7, .no] = some (.rt (.bl true)) := by kernel_rfl
theorem sn_5_k2_e0 : y_sure_number [ring [5], .int 2, .int 0] = some (.int 4) := by kernel_rfl
theorem sl_5_k2_e0 : y_law_sure [.int 5, .int 2, .int 0] = some (.int 4) := by kernel_rfl
theorem dt_5_k2_e0 : okTell (ring [5]) [.tup [.int 0], .tup [.int 1], .tup [.int 2], .tup [.int 3], .tup [.int 4]] 2 0 4 = true := by kernel_rfl
theorem rs_5_k2_e0 (v0 v7 : Sl) : xLoop [v0, .val fl_5, .val (ring [5]), .val (.int 5), .val (.int 2), .val (.int 0), .val (.int 4), v7, .no] = some (.rt (.bl true)) := by kernel_rfl
theorem sn_5_k2_e1 : y_sure_number [ring [5], .int 2, .int 1] = some .non := by kernel_rfl
theorem sl_5_k2_e1 : y_law_sure [.int 5, .int 2, .int 1] = some .non := by kernel_rfl
theorem dt_5_k2_e1 : x_does_tell [ring [5], .tup [.tup [.int 0], .tup [.int 1], .tup [.int 2], .tup [.int 3], .tup [.int 4]], .int 2, .int 1] = some (.bl false) := by kernel_rfl
theorem fo_5 : FlOk y_sure_number y_law_sure x_does_tell xLoop fl_5 := by
  refine ⟨ring [5], 5, [.tup [.int 0], .tup [.int 1], .tup [.int 2], .tup [.int 3], .tup [.int 4]], rfl, rfl, rfl, by decide, by decide, by decide, fun k k1 k2 e he => ?_⟩
  have hk : k = 1 ∨ k = 2 := by
    have : k ≤ 2 := k2
    omega
  simp only [List.mem_cons, List.not_mem_nil, or_false] at he
  rcases hk with rfl | rfl <;> rcases he with rfl | rfl
  · exact ⟨_, sn_5_k1_e0, sl_5_k1_e0, rfl, .inr ⟨2, rfl, by decide, by decide, fun zs hz => ⟨tell_of dt_5_k1_e0 zs hz, fun v0 v7 => rs_5_k1_e0 v0 v7⟩⟩⟩
  · exact ⟨_, sn_5_k1_e1, sl_5_k1_e1, rfl, .inr ⟨4, rfl, by decide, by decide, fun zs hz => ⟨tell_of dt_5_k1_e1 zs hz, fun v0 v7 => rs_5_k1_e1 v0 v7⟩⟩⟩
  · exact ⟨_, sn_5_k2_e0, sl_5_k2_e0, rfl, .inr ⟨4, rfl, by decide, by decide, fun zs hz => ⟨tell_of dt_5_k2_e0 zs hz, fun v0 v7 => rs_5_k2_e0 v0 v7⟩⟩⟩
  · exact ⟨_, sn_5_k2_e1, sl_5_k2_e1, rfl, .inl ⟨rfl, dt_5_k2_e1⟩⟩
def fl_6 : D := .dK [(.inr "rings", .tup [.int 6]), (.inr "n", .int 6), (.inr "e", .int 6), (.inr "poly", .lst [.int 1, .int (-1), .int 1]), (.inr "places", .lst [.tup [.int 0], .tup [.int 1], .tup [.int 2], .tup [.int 3], .tup [.int 4], .tup [.int 5]])]
theorem fl_6_ok : x_law_floor [ring [6]] = some fl_6 := by kernel_rfl
theorem sn_6_k1_e0 : y_sure_number [ring [6], .int 1, .int 0] = some (.int 4) := by kernel_rfl
theorem sl_6_k1_e0 : y_law_sure [.int 6, .int 1, .int 0] = some (.int 4) := by kernel_rfl
theorem dt_6_k1_e0 : okTell (ring [6]) [.tup [.int 0], .tup [.int 1], .tup [.int 2], .tup [.int 3], .tup [.int 4], .tup [.int 5]] 1 0 4 = true := by kernel_rfl
theorem rs_6_k1_e0 (v0 v7 : Sl) : xLoop [v0, .val fl_6, .val (ring [6]), .val (.int 6), .val (.int 1), .val (.int 0), .val (.int 4), v7, .no] = some (.rt (.bl true)) := by kernel_rfl
theorem sn_6_k1_e1 : y_sure_number [ring [6], .int 1, .int 1] = some (.int 6) := by kernel_rfl
theorem sl_6_k1_e1 : y_law_sure [.int 6, .int 1, .int 1] = some (.int 6) := by kernel_rfl
theorem dt_6_k1_e1 : okTell (ring [6]) [.tup [.int 0], .tup [.int 1], .tup [.int 2], .tup [.int 3], .tup [.int 4], .tup [.int 5]] 1 1 6 = true := by kernel_rfl
theorem rs_6_k1_e1 (v0 v7 : Sl) : xLoop [v0, .val fl_6, .val (ring [6]), .val (.int 6), .val (.int 1), .val (.int 1), .val (.int 6), v7, .no] = some (.rt (.bl true)) := by kernel_rfl
theorem sn_6_k2_e0 : y_sure_number [ring [6], .int 2, .int 0] = some (.int 5) := by kernel_rfl
theorem sl_6_k2_e0 : y_law_sure [.int 6, .int 2, .int 0] = some (.int 5) := by kernel_rfl
theorem dt_6_k2_e0 : okTell (ring [6]) [.tup [.int 0], .tup [.int 1], .tup [.int 2], .tup [.int 3], .tup [.int 4], .tup [.int 5]] 2 0 5 = true := by kernel_rfl
theorem rs_6_k2_e0 (v0 v7 : Sl) : xLoop [v0, .val fl_6, .val (ring [6]), .val (.int 6), .val (.int 2), .val (.int 0), .val (.int 5), v7, .no] = some (.rt (.bl true)) := by kernel_rfl
theorem sn_6_k2_e1 : y_sure_number [ring [6], .int 2, .int 1] = some .non := by kernel_rfl
theorem sl_6_k2_e1 : y_law_sure [.int 6, .int 2, .int 1] = some .non := by kernel_rfl
theorem dt_6_k2_e1 : x_does_tell [ring [6], .tup [.tup [.int 0], .tup [.int 1], .tup [.int 2], .tup [.int 3], .tup [.int 4], .tup [.int 5]], .int 2, .int 1] = some (.bl false) := by kernel_rfl
theorem fo_6 : FlOk y_sure_number y_law_sure x_does_tell xLoop fl_6 := by
  refine ⟨ring [6], 6, [.tup [.int 0], .tup [.int 1], .tup [.int 2], .tup [.int 3], .tup [.int 4], .tup [.int 5]], rfl, rfl, rfl, by decide, by decide, by decide, fun k k1 k2 e he => ?_⟩
  have hk : k = 1 ∨ k = 2 := by
    have : k ≤ 2 := k2
    omega
  simp only [List.mem_cons, List.not_mem_nil, or_false] at he
  rcases hk with rfl | rfl <;> rcases he with rfl | rfl
  · exact ⟨_, sn_6_k1_e0, sl_6_k1_e0, rfl, .inr ⟨4, rfl, by decide, by decide, fun zs hz => ⟨tell_of dt_6_k1_e0 zs hz, fun v0 v7 => rs_6_k1_e0 v0 v7⟩⟩⟩
  · exact ⟨_, sn_6_k1_e1, sl_6_k1_e1, rfl, .inr ⟨6, rfl, by decide, by decide, fun zs hz => ⟨tell_of dt_6_k1_e1 zs hz, fun v0 v7 => rs_6_k1_e1 v0 v7⟩⟩⟩
  · exact ⟨_, sn_6_k2_e0, sl_6_k2_e0, rfl, .inr ⟨5, rfl, by decide, by decide, fun zs hz => ⟨tell_of dt_6_k2_e0 zs hz, fun v0 v7 => rs_6_k2_e0 v0 v7⟩⟩⟩
  · exact ⟨_, sn_6_k2_e1, sl_6_k2_e1, rfl, .inl ⟨rfl, dt_6_k2_e1⟩⟩
def fl_2_2 : D := .dK [(.inr "rings", .tup [.int 2, .int 2]), (.inr "n", .int 4), (.inr "e", .int 2), (.inr "poly", .lst [.int 1, .int 1]), (.inr "places", .lst [.tup [.int 0, .int 0], .tup [.int 0, .int 1], .tup [.int 1, .int 0], .tup [.int 1, .int 1]])]
theorem fl_2_2_ok : x_law_floor [ring [2, 2]] = some fl_2_2 := by kernel_rfl
theorem sn_2_2_k1_e0 : y_sure_number [ring [2, 2], .int 1, .int 0] = some (.int 3) := by kernel_rfl
theorem sl_2_2_k1_e0 : y_law_sure [.int 4, .int 1, .int 0] = some (.int 3) := by kernel_rfl
theorem dt_2_2_k1_e0 : okTell (ring [2, 2]) [.tup [.int 0, .int 0], .tup [.int 0, .int 1], .tup [.int 1, .int 0], .tup [.int 1, .int 1]] 1 0 3 = true := by kernel_rfl
theorem rs_2_2_k1_e0 (v0 v7 : Sl) : xLoop [v0, .val fl_2_2, .val (ring [2, 2]), .val (.int 4), .val (.int 1), .val (.int 0), .val (.int 3), v7, .no] = some (.rt (.bl true)) := by kernel_rfl
theorem sn_2_2_k1_e1 : y_sure_number [ring [2, 2], .int 1, .int 1] = some .non := by kernel_rfl
theorem sl_2_2_k1_e1 : y_law_sure [.int 4, .int 1, .int 1] = some .non := by kernel_rfl
theorem dt_2_2_k1_e1 : x_does_tell [ring [2, 2], .tup [.tup [.int 0, .int 0], .tup [.int 0, .int 1], .tup [.int 1, .int 0], .tup [.int 1, .int 1]], .int 1, .int 1] = some (.bl false) := by kernel_rfl
theorem sn_2_2_k2_e0 : y_sure_number [ring [2, 2], .int 2, .int 0] = some (.int 4) := by kernel_rfl
theorem sl_2_2_k2_e0 : y_law_sure [.int 4, .int 2, .int 0] = some (.int 4) := by kernel_rfl
theorem dt_2_2_k2_e0 : okTell (ring [2, 2]) [.tup [.int 0, .int 0], .tup [.int 0, .int 1], .tup [.int 1, .int 0], .tup [.int 1, .int 1]] 2 0 4 = true := by kernel_rfl
theorem rs_2_2_k2_e0 (v0 v7 : Sl) : xLoop [v0, .val fl_2_2, .val (ring [2, 2]), .val (.int 4), .val (.int 2), .val (.int 0), .val (.int 4), v7, .no] = some (.rt (.bl true)) := by kernel_rfl
theorem sn_2_2_k2_e1 : y_sure_number [ring [2, 2], .int 2, .int 1] = some .non := by kernel_rfl
theorem sl_2_2_k2_e1 : y_law_sure [.int 4, .int 2, .int 1] = some .non := by kernel_rfl
theorem dt_2_2_k2_e1 : x_does_tell [ring [2, 2], .tup [.tup [.int 0, .int 0], .tup [.int 0, .int 1], .tup [.int 1, .int 0], .tup [.int 1, .int 1]], .int 2, .int 1] = some (.bl false) := by kernel_rfl
theorem fo_2_2 : FlOk y_sure_number y_law_sure x_does_tell xLoop fl_2_2 := by
  refine ⟨ring [2, 2], 4, [.tup [.int 0, .int 0], .tup [.int 0, .int 1], .tup [.int 1, .int 0], .tup [.int 1, .int 1]], rfl, rfl, rfl, by decide, by decide, by decide, fun k k1 k2 e he => ?_⟩
  have hk : k = 1 ∨ k = 2 := by
    have : k ≤ 2 := k2
    omega
  simp only [List.mem_cons, List.not_mem_nil, or_false] at he
  rcases hk with rfl | rfl <;> rcases he with rfl | rfl
  · exact ⟨_, sn_2_2_k1_e0, sl_2_2_k1_e0, rfl, .inr ⟨3, rfl, by decide, by decide, fun zs hz => ⟨tell_of dt_2_2_k1_e0 zs hz, fun v0 v7 => rs_2_2_k1_e0 v0 v7⟩⟩⟩
  · exact ⟨_, sn_2_2_k1_e1, sl_2_2_k1_e1, rfl, .inl ⟨rfl, dt_2_2_k1_e1⟩⟩
  · exact ⟨_, sn_2_2_k2_e0, sl_2_2_k2_e0, rfl, .inr ⟨4, rfl, by decide, by decide, fun zs hz => ⟨tell_of dt_2_2_k2_e0 zs hz, fun v0 v7 => rs_2_2_k2_e0 v0 v7⟩⟩⟩
  · exact ⟨_, sn_2_2_k2_e1, sl_2_2_k2_e1, rfl, .inl ⟨rfl, dt_2_2_k2_e1⟩⟩
def fl_3 : D := .dK [(.inr "rings", .tup [.int 3]), (.inr "n", .int 3), (.inr "e", .int 3), (.inr "poly", .lst [.int 1, .int 1, .int 1]), (.inr "places", .lst [.tup [.int 0], .tup [.int 1], .tup [.int 2]])]
theorem fl_3_ok : x_law_floor [ring [3]] = some fl_3 := by kernel_rfl
theorem sn_3_k1_e0 : y_sure_number [ring [3], .int 1, .int 0] = some (.int 2) := by kernel_rfl
theorem sl_3_k1_e0 : y_law_sure [.int 3, .int 1, .int 0] = some (.int 2) := by kernel_rfl
theorem dt_3_k1_e0 : okTell (ring [3]) [.tup [.int 0], .tup [.int 1], .tup [.int 2]] 1 0 2 = true := by kernel_rfl
theorem rs_3_k1_e0 (v0 v7 : Sl) : xLoop [v0, .val fl_3, .val (ring [3]), .val (.int 3), .val (.int 1), .val (.int 0), .val (.int 2), v7, .no] = some (.rt (.bl true)) := by kernel_rfl
theorem sn_3_k1_e1 : y_sure_number [ring [3], .int 1, .int 1] = some .non := by kernel_rfl
theorem sl_3_k1_e1 : y_law_sure [.int 3, .int 1, .int 1] = some .non := by kernel_rfl
theorem dt_3_k1_e1 : x_does_tell [ring [3], .tup [.tup [.int 0], .tup [.int 1], .tup [.int 2]], .int 1, .int 1] = some (.bl false) := by kernel_rfl
theorem fo_3 : FlOk y_sure_number y_law_sure x_does_tell xLoop fl_3 := by
  refine ⟨ring [3], 3, [.tup [.int 0], .tup [.int 1], .tup [.int 2]], rfl, rfl, rfl, by decide, by decide, by decide, fun k k1 k2 e he => ?_⟩
  have hk : k = 1 := by
    have : k ≤ 1 := k2
    omega
  simp only [List.mem_cons, List.not_mem_nil, or_false] at he
  rcases hk with rfl <;> rcases he with rfl | rfl
  · exact ⟨_, sn_3_k1_e0, sl_3_k1_e0, rfl, .inr ⟨2, rfl, by decide, by decide, fun zs hz => ⟨tell_of dt_3_k1_e0 zs hz, fun v0 v7 => rs_3_k1_e0 v0 v7⟩⟩⟩
  · exact ⟨_, sn_3_k1_e1, sl_3_k1_e1, rfl, .inl ⟨rfl, dt_3_k1_e1⟩⟩
def fl_2_3 : D := .dK [(.inr "rings", .tup [.int 2, .int 3]), (.inr "n", .int 6), (.inr "e", .int 6), (.inr "poly", .lst [.int 1, .int (-1), .int 1]), (.inr "places", .lst [.tup [.int 0, .int 0], .tup [.int 0, .int 1], .tup [.int 0, .int 2], .tup [.int 1, .int 0], .tup [.int 1, .int 1], .tup [.int 1, .int 2]])]
theorem fl_2_3_ok : x_law_floor [ring [2, 3]] = some fl_2_3 := by kernel_rfl
theorem sn_2_3_k1_e0 : y_sure_number [ring [2, 3], .int 1, .int 0] = some (.int 4) := by kernel_rfl
theorem sl_2_3_k1_e0 : y_law_sure [.int 6, .int 1, .int 0] = some (.int 4) := by kernel_rfl
theorem dt_2_3_k1_e0 : okTell (ring [2, 3]) [.tup [.int 0, .int 0], .tup [.int 0, .int 1], .tup [.int 0, .int 2], .tup [.int 1, .int 0], .tup [.int 1, .int 1], .tup [.int 1, .int 2]] 1 0 4 = true := by kernel_rfl
theorem rs_2_3_k1_e0 (v0 v7 : Sl) : xLoop [v0, .val fl_2_3, .val (ring [2, 3]), .val (.int 6), .val (.int 1), .val (.int 0), .val (.int 4), v7, .no] = some (.rt (.bl true)) := by kernel_rfl
theorem sn_2_3_k1_e1 : y_sure_number [ring [2, 3], .int 1, .int 1] = some (.int 6) := by kernel_rfl
theorem sl_2_3_k1_e1 : y_law_sure [.int 6, .int 1, .int 1] = some (.int 6) := by kernel_rfl
theorem dt_2_3_k1_e1 : okTell (ring [2, 3]) [.tup [.int 0, .int 0], .tup [.int 0, .int 1], .tup [.int 0, .int 2], .tup [.int 1, .int 0], .tup [.int 1, .int 1], .tup [.int 1, .int 2]] 1 1 6 = true := by kernel_rfl
theorem rs_2_3_k1_e1 (v0 v7 : Sl) : xLoop [v0, .val fl_2_3, .val (ring [2, 3]), .val (.int 6), .val (.int 1), .val (.int 1), .val (.int 6), v7, .no] = some (.rt (.bl true)) := by kernel_rfl
theorem sn_2_3_k2_e0 : y_sure_number [ring [2, 3], .int 2, .int 0] = some (.int 5) := by kernel_rfl
theorem sl_2_3_k2_e0 : y_law_sure [.int 6, .int 2, .int 0] = some (.int 5) := by kernel_rfl
theorem dt_2_3_k2_e0 : okTell (ring [2, 3]) [.tup [.int 0, .int 0], .tup [.int 0, .int 1], .tup [.int 0, .int 2], .tup [.int 1, .int 0], .tup [.int 1, .int 1], .tup [.int 1, .int 2]] 2 0 5 = true := by kernel_rfl
theorem rs_2_3_k2_e0 (v0 v7 : Sl) : xLoop [v0, .val fl_2_3, .val (ring [2, 3]), .val (.int 6), .val (.int 2), .val (.int 0), .val (.int 5), v7, .no] = some (.rt (.bl true)) := by kernel_rfl
theorem sn_2_3_k2_e1 : y_sure_number [ring [2, 3], .int 2, .int 1] = some .non := by kernel_rfl
theorem sl_2_3_k2_e1 : y_law_sure [.int 6, .int 2, .int 1] = some .non := by kernel_rfl
theorem dt_2_3_k2_e1 : x_does_tell [ring [2, 3], .tup [.tup [.int 0, .int 0], .tup [.int 0, .int 1], .tup [.int 0, .int 2], .tup [.int 1, .int 0], .tup [.int 1, .int 1], .tup [.int 1, .int 2]], .int 2, .int 1] = some (.bl false) := by kernel_rfl
theorem fo_2_3 : FlOk y_sure_number y_law_sure x_does_tell xLoop fl_2_3 := by
  refine ⟨ring [2, 3], 6, [.tup [.int 0, .int 0], .tup [.int 0, .int 1], .tup [.int 0, .int 2], .tup [.int 1, .int 0], .tup [.int 1, .int 1], .tup [.int 1, .int 2]], rfl, rfl, rfl, by decide, by decide, by decide, fun k k1 k2 e he => ?_⟩
  have hk : k = 1 ∨ k = 2 := by
    have : k ≤ 2 := k2
    omega
  simp only [List.mem_cons, List.not_mem_nil, or_false] at he
  rcases hk with rfl | rfl <;> rcases he with rfl | rfl
  · exact ⟨_, sn_2_3_k1_e0, sl_2_3_k1_e0, rfl, .inr ⟨4, rfl, by decide, by decide, fun zs hz => ⟨tell_of dt_2_3_k1_e0 zs hz, fun v0 v7 => rs_2_3_k1_e0 v0 v7⟩⟩⟩
  · exact ⟨_, sn_2_3_k1_e1, sl_2_3_k1_e1, rfl, .inr ⟨6, rfl, by decide, by decide, fun zs hz => ⟨tell_of dt_2_3_k1_e1 zs hz, fun v0 v7 => rs_2_3_k1_e1 v0 v7⟩⟩⟩
  · exact ⟨_, sn_2_3_k2_e0, sl_2_3_k2_e0, rfl, .inr ⟨5, rfl, by decide, by decide, fun zs hz => ⟨tell_of dt_2_3_k2_e0 zs hz, fun v0 v7 => rs_2_3_k2_e0 v0 v7⟩⟩⟩
  · exact ⟨_, sn_2_3_k2_e1, sl_2_3_k2_e1, rfl, .inl ⟨rfl, dt_2_3_k2_e1⟩⟩
def fl_2 : D := .dK [(.inr "rings", .tup [.int 2]), (.inr "n", .int 2), (.inr "e", .int 2), (.inr "poly", .lst [.int 1, .int 1]), (.inr "places", .lst [.tup [.int 0], .tup [.int 1]])]
theorem fl_2_ok : x_law_floor [ring [2]] = some fl_2 := by kernel_rfl
theorem sn_2_k1_e0 : y_sure_number [ring [2], .int 1, .int 0] = some (.int 2) := by kernel_rfl
theorem sl_2_k1_e0 : y_law_sure [.int 2, .int 1, .int 0] = some (.int 2) := by kernel_rfl
theorem dt_2_k1_e0 : okTell (ring [2]) [.tup [.int 0], .tup [.int 1]] 1 0 2 = true := by kernel_rfl
theorem rs_2_k1_e0 (v0 v7 : Sl) : xLoop [v0, .val fl_2, .val (ring [2]), .val (.int 2), .val (.int 1), .val (.int 0), .val (.int 2), v7, .no] = some (.rt (.bl true)) := by kernel_rfl
theorem sn_2_k1_e1 : y_sure_number [ring [2], .int 1, .int 1] = some .non := by kernel_rfl
theorem sl_2_k1_e1 : y_law_sure [.int 2, .int 1, .int 1] = some .non := by kernel_rfl
theorem dt_2_k1_e1 : x_does_tell [ring [2], .tup [.tup [.int 0], .tup [.int 1]], .int 1, .int 1] = some (.bl false) := by kernel_rfl
theorem fo_2 : FlOk y_sure_number y_law_sure x_does_tell xLoop fl_2 := by
  refine ⟨ring [2], 2, [.tup [.int 0], .tup [.int 1]], rfl, rfl, rfl, by decide, by decide, by decide, fun k k1 k2 e he => ?_⟩
  have hk : k = 1 := by
    have : k ≤ 1 := k2
    omega
  simp only [List.mem_cons, List.not_mem_nil, or_false] at he
  rcases hk with rfl <;> rcases he with rfl | rfl
  · exact ⟨_, sn_2_k1_e0, sl_2_k1_e0, rfl, .inr ⟨2, rfl, by decide, by decide, fun zs hz => ⟨tell_of dt_2_k1_e0 zs hz, fun v0 v7 => rs_2_k1_e0 v0 v7⟩⟩⟩
  · exact ⟨_, sn_2_k1_e1, sl_2_k1_e1, rfl, .inl ⟨rfl, dt_2_k1_e1⟩⟩
def fl_3_2 : D := .dK [(.inr "rings", .tup [.int 3, .int 2]), (.inr "n", .int 6), (.inr "e", .int 6), (.inr "poly", .lst [.int 1, .int (-1), .int 1]), (.inr "places", .lst [.tup [.int 0, .int 0], .tup [.int 0, .int 1], .tup [.int 1, .int 0], .tup [.int 1, .int 1], .tup [.int 2, .int 0], .tup [.int 2, .int 1]])]
theorem fl_3_2_ok : x_law_floor [ring [3, 2]] = some fl_3_2 := by kernel_rfl
theorem sn_3_2_k1_e0 : y_sure_number [ring [3, 2], .int 1, .int 0] = some (.int 4) := by kernel_rfl
theorem sl_3_2_k1_e0 : y_law_sure [.int 6, .int 1, .int 0] = some (.int 4) := by kernel_rfl
theorem dt_3_2_k1_e0 : okTell (ring [3, 2]) [.tup [.int 0, .int 0], .tup [.int 0, .int 1], .tup [.int 1, .int 0], .tup [.int 1, .int 1], .tup [.int 2, .int 0], .tup [.int 2, .int 1]] 1 0 4 = true := by kernel_rfl
theorem rs_3_2_k1_e0 (v0 v7 : Sl) : xLoop [v0, .val fl_3_2, .val (ring [3, 2]), .val (.int 6), .val (.int 1), .val (.int 0), .val (.int 4), v7, .no] = some (.rt (.bl true)) := by kernel_rfl
theorem sn_3_2_k1_e1 : y_sure_number [ring [3, 2], .int 1, .int 1] = some (.int 6) := by kernel_rfl
theorem sl_3_2_k1_e1 : y_law_sure [.int 6, .int 1, .int 1] = some (.int 6) := by kernel_rfl
theorem dt_3_2_k1_e1 : okTell (ring [3, 2]) [.tup [.int 0, .int 0], .tup [.int 0, .int 1], .tup [.int 1, .int 0], .tup [.int 1, .int 1], .tup [.int 2, .int 0], .tup [.int 2, .int 1]] 1 1 6 = true := by kernel_rfl
theorem rs_3_2_k1_e1 (v0 v7 : Sl) : xLoop [v0, .val fl_3_2, .val (ring [3, 2]), .val (.int 6), .val (.int 1), .val (.int 1), .val (.int 6), v7, .no] = some (.rt (.bl true)) := by kernel_rfl
theorem sn_3_2_k2_e0 : y_sure_number [ring [3, 2], .int 2, .int 0] = some (.int 5) := by kernel_rfl
theorem sl_3_2_k2_e0 : y_law_sure [.int 6, .int 2, .int 0] = some (.int 5) := by kernel_rfl
theorem dt_3_2_k2_e0 : okTell (ring [3, 2]) [.tup [.int 0, .int 0], .tup [.int 0, .int 1], .tup [.int 1, .int 0], .tup [.int 1, .int 1], .tup [.int 2, .int 0], .tup [.int 2, .int 1]] 2 0 5 = true := by kernel_rfl
theorem rs_3_2_k2_e0 (v0 v7 : Sl) : xLoop [v0, .val fl_3_2, .val (ring [3, 2]), .val (.int 6), .val (.int 2), .val (.int 0), .val (.int 5), v7, .no] = some (.rt (.bl true)) := by kernel_rfl
theorem sn_3_2_k2_e1 : y_sure_number [ring [3, 2], .int 2, .int 1] = some .non := by kernel_rfl
theorem sl_3_2_k2_e1 : y_law_sure [.int 6, .int 2, .int 1] = some .non := by kernel_rfl
theorem dt_3_2_k2_e1 : x_does_tell [ring [3, 2], .tup [.tup [.int 0, .int 0], .tup [.int 0, .int 1], .tup [.int 1, .int 0], .tup [.int 1, .int 1], .tup [.int 2, .int 0], .tup [.int 2, .int 1]], .int 2, .int 1] = some (.bl false) := by kernel_rfl
theorem fo_3_2 : FlOk y_sure_number y_law_sure x_does_tell xLoop fl_3_2 := by
  refine ⟨ring [3, 2], 6, [.tup [.int 0, .int 0], .tup [.int 0, .int 1], .tup [.int 1, .int 0], .tup [.int 1, .int 1], .tup [.int 2, .int 0], .tup [.int 2, .int 1]], rfl, rfl, rfl, by decide, by decide, by decide, fun k k1 k2 e he => ?_⟩
  have hk : k = 1 ∨ k = 2 := by
    have : k ≤ 2 := k2
    omega
  simp only [List.mem_cons, List.not_mem_nil, or_false] at he
  rcases hk with rfl | rfl <;> rcases he with rfl | rfl
  · exact ⟨_, sn_3_2_k1_e0, sl_3_2_k1_e0, rfl, .inr ⟨4, rfl, by decide, by decide, fun zs hz => ⟨tell_of dt_3_2_k1_e0 zs hz, fun v0 v7 => rs_3_2_k1_e0 v0 v7⟩⟩⟩
  · exact ⟨_, sn_3_2_k1_e1, sl_3_2_k1_e1, rfl, .inr ⟨6, rfl, by decide, by decide, fun zs hz => ⟨tell_of dt_3_2_k1_e1 zs hz, fun v0 v7 => rs_3_2_k1_e1 v0 v7⟩⟩⟩
  · exact ⟨_, sn_3_2_k2_e0, sl_3_2_k2_e0, rfl, .inr ⟨5, rfl, by decide, by decide, fun zs hz => ⟨tell_of dt_3_2_k2_e0 zs hz, fun v0 v7 => rs_3_2_k2_e0 v0 v7⟩⟩⟩
  · exact ⟨_, sn_3_2_k2_e1, sl_3_2_k2_e1, rfl, .inl ⟨rfl, dt_3_2_k2_e1⟩⟩
def fl_7 : D := .dK [(.inr "rings", .tup [.int 7]), (.inr "n", .int 7), (.inr "e", .int 7), (.inr "poly", .lst [.int 1, .int 1, .int 1, .int 1, .int 1, .int 1, .int 1]), (.inr "places", .lst [.tup [.int 0], .tup [.int 1], .tup [.int 2], .tup [.int 3], .tup [.int 4], .tup [.int 5], .tup [.int 6]])]
theorem fl_7_ok : x_law_floor [ring [7]] = some fl_7 := by kernel_rfl
def fl_8 : D := .dK [(.inr "rings", .tup [.int 8]), (.inr "n", .int 8), (.inr "e", .int 8), (.inr "poly", .lst [.int 1, .int 0, .int 0, .int 0, .int 1]), (.inr "places", .lst [.tup [.int 0], .tup [.int 1], .tup [.int 2], .tup [.int 3], .tup [.int 4], .tup [.int 5], .tup [.int 6], .tup [.int 7]])]
theorem fl_8_ok : x_law_floor [ring [8]] = some fl_8 := by kernel_rfl
def fl_2_4 : D := .dK [(.inr "rings", .tup [.int 2, .int 4]), (.inr "n", .int 8), (.inr "e", .int 4), (.inr "poly", .lst [.int 1, .int 0, .int 1]), (.inr "places", .lst [.tup [.int 0, .int 0], .tup [.int 0, .int 1], .tup [.int 0, .int 2], .tup [.int 0, .int 3], .tup [.int 1, .int 0], .tup [.int 1, .int 1], .tup [.int 1, .int 2], .tup [.int 1, .int 3]])]
theorem fl_2_4_ok : x_law_floor [ring [2, 4]] = some fl_2_4 := by kernel_rfl
def fl_2_2_2 : D := .dK [(.inr "rings", .tup [.int 2, .int 2, .int 2]), (.inr "n", .int 8), (.inr "e", .int 2), (.inr "poly", .lst [.int 1, .int 1]), (.inr "places", .lst [.tup [.int 0, .int 0, .int 0], .tup [.int 0, .int 0, .int 1], .tup [.int 0, .int 1, .int 0], .tup [.int 0, .int 1, .int 1], .tup [.int 1, .int 0, .int 0], .tup [.int 1, .int 0, .int 1], .tup [.int 1, .int 1, .int 0], .tup [.int 1, .int 1, .int 1]])]
theorem fl_2_2_2_ok : x_law_floor [ring [2, 2, 2]] = some fl_2_2_2 := by kernel_rfl
theorem h16 : ∀ x ∈ rings12 ++ rings4, ∃ d n, x_law_floor [x] = some d ∧ xoDget d (.str "n") = some (.int n) ∧ (n > 6 ∨ (¬ n > 6 ∧ FlOk y_sure_number y_law_sure x_does_tell xLoop d)) := by
  intro x hx
  simp only [rings12, rings4, List.cons_append, List.nil_append, List.mem_cons, List.not_mem_nil, or_false] at hx
  rcases hx with rfl | rfl | rfl | rfl | rfl | rfl | rfl | rfl | rfl | rfl | rfl | rfl | rfl | rfl | rfl | rfl
  · exact ⟨_, 4, fl_4_ok, rfl, .inr ⟨by decide, fo_4⟩⟩
  · exact ⟨_, 5, fl_5_ok, rfl, .inr ⟨by decide, fo_5⟩⟩
  · exact ⟨_, 6, fl_6_ok, rfl, .inr ⟨by decide, fo_6⟩⟩
  · exact ⟨_, 4, fl_2_2_ok, rfl, .inr ⟨by decide, fo_2_2⟩⟩
  · exact ⟨_, 3, fl_3_ok, rfl, .inr ⟨by decide, fo_3⟩⟩
  · exact ⟨_, 6, fl_2_3_ok, rfl, .inr ⟨by decide, fo_2_3⟩⟩
  · exact ⟨_, 5, fl_5_ok, rfl, .inr ⟨by decide, fo_5⟩⟩
  · exact ⟨_, 6, fl_6_ok, rfl, .inr ⟨by decide, fo_6⟩⟩
  · exact ⟨_, 2, fl_2_ok, rfl, .inr ⟨by decide, fo_2⟩⟩
  · exact ⟨_, 6, fl_3_2_ok, rfl, .inr ⟨by decide, fo_3_2⟩⟩
  · exact ⟨_, 4, fl_4_ok, rfl, .inr ⟨by decide, fo_4⟩⟩
  · exact ⟨_, 5, fl_5_ok, rfl, .inr ⟨by decide, fo_5⟩⟩
  · exact ⟨_, 7, fl_7_ok, rfl, .inl (by decide)⟩
  · exact ⟨_, 8, fl_8_ok, rfl, .inl (by decide)⟩
  · exact ⟨_, 8, fl_2_4_ok, rfl, .inl (by decide)⟩
  · exact ⟨_, 8, fl_2_2_2_ok, rfl, .inl (by decide)⟩
theorem h3 : ∀ x ∈ rings3, ∃ d, x_law_floor [x] = some d ∧ FlOk y_sure_number y_law_sure x_does_tell xLoop d := by
  intro x hx
  simp only [rings3, List.mem_cons, List.not_mem_nil, or_false] at hx
  rcases hx with rfl | rfl | rfl
  · exact ⟨_, fl_6_ok, fo_6⟩
  · exact ⟨_, fl_2_3_ok, fo_2_3⟩
  · exact ⟨_, fl_5_ok, fo_5⟩
theorem tiny_ok {s : Hp} {a : Addr} {Q ex : D → Hp → Prop} (hd : Dk s a) (h : ∀ x ∈ rings12 ++ rings4, ∃ d, x_law_floor [x] = some d ∧ ∀ s', Dk s' a → Q d s') : f_law_tiny_floor E0 [.obj a] s Q ex := by
  unfold f_law_tiny_floor fDef T_law_tiny_floor
  exact tiny_gen pick_ok sim_law_floor hd h
theorem small_ok {s : Hp} {a : Addr} {Q ex : D → Hp → Prop} (hd : Dk s a) (hq : ∀ s', Q (.bl true) s') : f_law_is_small_right E0 [.obj a] s Q ex := by
  unfold f_law_is_small_right fDef T_law_is_small_right
  exact small_gen pick_ok some_ok simy_sure_number simy_law_sure sim_does_tell sim_law_floor (simLoop _) tiny_ok hd h16 h3 hq
theorem plain (ns : List Int) (h : ns.length ≤ 63) : f_law E0 [.scr (ns.map .int)] (fun _ => none) (fun v _ => v = .bl true) (fun _ _ => False) := by
  unfold f_law fDef T_law
  exact law_gen pick_ok simy_sure_number simy_law_sure h14 small_ok ns _
end K31

end
set_option maxRecDepth 100000
set_option linter.all false
set_option autoImplicit false

namespace K31
open PySem L2 DL
theorem all_mk {l : PySem.W.OpenLaw} {w : World} {K : PySem.W.Frag} {h : Heap} {mg : PySem.Str → Option Value} {fa : Addr} (X : K.In h) (G : h.Ns mainGlobals mg) (hfa : mg "law" = some (.ref fa))
    {od__law_deck an__law_deck : Option Addr} {sl__law_deck : Array (Option Value)} {oc__law_deck kV__law_deck dc__law_deck pm__law_deck cd__law_deck ct__law_deck : Value} {q__law_deck : Addr} {od__law_draw an__law_draw : Option Addr} {sl__law_draw : Array (Option Value)} {oc__law_draw kV__law_draw dc__law_draw pm__law_draw cd__law_draw ct__law_draw : Value} {q__law_draw : Addr} {od_primes_of an_primes_of : Option Addr} {sl_primes_of : Array (Option Value)} {oc_primes_of kV_primes_of dc_primes_of pm_primes_of cd_primes_of ct_primes_of : Value} {q_primes_of : Addr} {od_is_integer an_is_integer : Option Addr} {sl_is_integer : Array (Option Value)} {oc_is_integer kV_is_integer dc_is_integer pm_is_integer cd_is_integer ct_is_integer : Value} {q_is_integer : Addr} {od_are_integers an_are_integers : Option Addr} {sl_are_integers : Array (Option Value)} {oc_are_integers kV_are_integers dc_are_integers pm_are_integers cd_are_integers ct_are_integers : Value} {q_are_integers : Addr} {od_size an_size : Option Addr} {sl_size : Array (Option Value)} {oc_size kV_size dc_size pm_size cd_size ct_size : Value} {q_size : Addr} {od_are_rings_value an_are_rings_value : Option Addr} {sl_are_rings_value : Array (Option Value)} {oc_are_rings_value kV_are_rings_value dc_are_rings_value pm_are_rings_value cd_are_rings_value ct_are_rings_value : Value} {q_are_rings_value : Addr} {od_is_place_value an_is_place_value : Option Addr} {sl_is_place_value : Array (Option Value)} {oc_is_place_value kV_is_place_value dc_is_place_value pm_is_place_value cd_is_place_value ct_is_place_value : Value} {q_is_place_value : Addr} {od_is_lot_value an_is_lot_value : Option Addr} {sl_is_lot_value : Array (Option Value)} {oc_is_lot_value kV_is_lot_value dc_is_lot_value pm_is_lot_value cd_is_lot_value ct_is_lot_value : Value} {q_is_lot_value : Addr} {od_need_rings an_need_rings : Option Addr} {sl_need_rings : Array (Option Value)} {oc_need_rings kV_need_rings dc_need_rings pm_need_rings cd_need_rings ct_need_rings : Value} {q_need_rings : Addr} {od_need_lot an_need_lot : Option Addr} {sl_need_lot : Array (Option Value)} {oc_need_lot kV_need_lot dc_need_lot pm_need_lot cd_need_lot ct_need_lot : Value} {q_need_lot : Addr} {od_need_count an_need_count : Option Addr} {sl_need_count : Array (Option Value)} {oc_need_count kV_need_count dc_need_count pm_need_count cd_need_count ct_need_count : Value} {q_need_count : Addr} {T_need_count : Addr} {tc_need_count : Value} {td_need_count : Option Addr} {ts_need_count : Array (Option Value)} {tn_need_count : Nat} {od_order an_order : Option Addr} {sl_order : Array (Option Value)} {oc_order kV_order dc_order pm_order cd_order ct_order : Value} {q_order : Addr} {od_places_of an_places_of : Option Addr} {sl_places_of : Array (Option Value)} {oc_places_of kV_places_of dc_places_of pm_places_of cd_places_of ct_places_of : Value} {q_places_of : Addr} {od_pair_of an_pair_of : Option Addr} {sl_pair_of : Array (Option Value)} {oc_pair_of kV_pair_of dc_pair_of pm_pair_of cd_pair_of ct_pair_of : Value} {q_pair_of : Addr} {od_choices_for an_choices_for : Option Addr} {sl_choices_for : Array (Option Value)} {oc_choices_for kV_choices_for dc_choices_for pm_choices_for cd_choices_for ct_choices_for : Value} {q_choices_for : Addr} {od_least_voices an_least_voices : Option Addr} {sl_least_voices : Array (Option Value)} {oc_least_voices kV_least_voices dc_least_voices pm_least_voices cd_least_voices ct_least_voices : Value} {q_least_voices : Addr} {od_turn_remainders an_turn_remainders : Option Addr} {sl_turn_remainders : Array (Option Value)} {oc_turn_remainders kV_turn_remainders dc_turn_remainders pm_turn_remainders cd_turn_remainders ct_turn_remainders : Value} {q_turn_remainders : Addr} {od_rank_by_remainders an_rank_by_remainders : Option Addr} {sl_rank_by_remainders : Array (Option Value)} {oc_rank_by_remainders kV_rank_by_remainders dc_rank_by_remainders pm_rank_by_remainders cd_rank_by_remainders ct_rank_by_remainders : Value} {q_rank_by_remainders : Addr} {od_first_gap an_first_gap : Option Addr} {sl_first_gap : Array (Option Value)} {oc_first_gap kV_first_gap dc_first_gap pm_first_gap cd_first_gap ct_first_gap : Value} {q_first_gap : Addr} {od_places_asked an_places_asked : Option Addr} {sl_places_asked : Array (Option Value)} {oc_places_asked kV_places_asked dc_places_asked pm_places_asked cd_places_asked ct_places_asked : Value} {q_places_asked : Addr} {od_are_telling an_are_telling : Option Addr} {sl_are_telling : Array (Option Value)} {oc_are_telling kV_are_telling dc_are_telling pm_are_telling cd_are_telling ct_are_telling : Value} {q_are_telling : Addr} {od_sure_many an_sure_many : Option Addr} {sl_sure_many : Array (Option Value)} {oc_sure_many kV_sure_many dc_sure_many pm_sure_many cd_sure_many ct_sure_many : Value} {q_sure_many : Addr} {od_need_counts an_need_counts : Option Addr} {sl_need_counts : Array (Option Value)} {oc_need_counts kV_need_counts dc_need_counts pm_need_counts cd_need_counts ct_need_counts : Value} {q_need_counts : Addr} {od_need_telling an_need_telling : Option Addr} {sl_need_telling : Array (Option Value)} {oc_need_telling kV_need_telling dc_need_telling pm_need_telling cd_need_telling ct_need_telling : Value} {q_need_telling : Addr} {od_does_tell an_does_tell : Option Addr} {sl_does_tell : Array (Option Value)} {oc_does_tell kV_does_tell dc_does_tell pm_does_tell cd_does_tell ct_does_tell : Value} {q_does_tell : Addr} {od_sure_number an_sure_number : Option Addr} {sl_sure_number : Array (Option Value)} {oc_sure_number kV_sure_number dc_sure_number pm_sure_number cd_sure_number ct_sure_number : Value} {q_sure_number : Addr} {od__law_pick an__law_pick : Option Addr} {sl__law_pick : Array (Option Value)} {oc__law_pick kV__law_pick dc__law_pick pm__law_pick cd__law_pick ct__law_pick : Value} {q__law_pick : Addr} {od__law_common an__law_common : Option Addr} {sl__law_common : Array (Option Value)} {oc__law_common kV__law_common dc__law_common pm__law_common cd__law_common ct__law_common : Value} {q__law_common : Addr} {od__law_shuffled an__law_shuffled : Option Addr} {sl__law_shuffled : Array (Option Value)} {oc__law_shuffled kV__law_shuffled dc__law_shuffled pm__law_shuffled cd__law_shuffled ct__law_shuffled : Value} {q__law_shuffled : Addr} {od__law_some_of an__law_some_of : Option Addr} {sl__law_some_of : Array (Option Value)} {oc__law_some_of kV__law_some_of dc__law_some_of pm__law_some_of cd__law_some_of ct__law_some_of : Value} {q__law_some_of : Addr} {od__law_divided an__law_divided : Option Addr} {sl__law_divided : Array (Option Value)} {oc__law_divided kV__law_divided dc__law_divided pm__law_divided cd__law_divided ct__law_divided : Value} {q__law_divided : Addr} {od__law_ring_polynomial an__law_ring_polynomial : Option Addr} {sl__law_ring_polynomial : Array (Option Value)} {oc__law_ring_polynomial kV__law_ring_polynomial dc__law_ring_polynomial pm__law_ring_polynomial cd__law_ring_polynomial ct__law_ring_polynomial : Value} {q__law_ring_polynomial : Addr} {od__law_floor an__law_floor : Option Addr} {sl__law_floor : Array (Option Value)} {oc__law_floor kV__law_floor dc__law_floor pm__law_floor cd__law_floor ct__law_floor : Value} {q__law_floor : Addr} {od__law_pairing an__law_pairing : Option Addr} {sl__law_pairing : Array (Option Value)} {oc__law_pairing kV__law_pairing dc__law_pairing pm__law_pairing cd__law_pairing ct__law_pairing : Value} {q__law_pairing : Addr} {od__law_root an__law_root : Option Addr} {sl__law_root : Array (Option Value)} {oc__law_root kV__law_root dc__law_root pm__law_root cd__law_root ct__law_root : Value} {q__law_root : Addr} {od__law_lines an__law_lines : Option Addr} {sl__law_lines : Array (Option Value)} {oc__law_lines kV__law_lines dc__law_lines pm__law_lines cd__law_lines ct__law_lines : Value} {q__law_lines : Addr} {od__law_rank an__law_rank : Option Addr} {sl__law_rank : Array (Option Value)} {oc__law_rank kV__law_rank dc__law_rank pm__law_rank cd__law_rank ct__law_rank : Value} {q__law_rank : Addr} {od__law_least an__law_least : Option Addr} {sl__law_least : Array (Option Value)} {oc__law_least kV__law_least dc__law_least pm__law_least cd__law_least ct__law_least : Value} {q__law_least : Addr} {od__law_lots_of an__law_lots_of : Option Addr} {sl__law_lots_of : Array (Option Value)} {oc__law_lots_of kV__law_lots_of dc__law_lots_of pm__law_lots_of cd__law_lots_of ct__law_lots_of : Value} {q__law_lots_of : Addr} {od__law_tells an__law_tells : Option Addr} {sl__law_tells : Array (Option Value)} {oc__law_tells kV__law_tells dc__law_tells pm__law_tells cd__law_tells ct__law_tells : Value} {q__law_tells : Addr} {od__law_tiny_floor an__law_tiny_floor : Option Addr} {sl__law_tiny_floor : Array (Option Value)} {oc__law_tiny_floor kV__law_tiny_floor dc__law_tiny_floor pm__law_tiny_floor cd__law_tiny_floor ct__law_tiny_floor : Value} {q__law_tiny_floor : Addr} {od__law_sure an__law_sure : Option Addr} {sl__law_sure : Array (Option Value)} {oc__law_sure kV__law_sure dc__law_sure pm__law_sure cd__law_sure ct__law_sure : Value} {q__law_sure : Addr} {od__law_is_small_right an__law_is_small_right : Option Addr} {sl__law_is_small_right : Array (Option Value)} {oc__law_is_small_right kV__law_is_small_right dc__law_is_small_right pm__law_is_small_right cd__law_is_small_right ct__law_is_small_right : Value} {q__law_is_small_right : Addr} {od_law an_law : Option Addr} {sl_law : Array (Option Value)} {oc_law kV_law dc_law pm_law cd_law ct_law : Value} {q_law : Addr} {tk_MOST_RINGS : Tok} {tk_MOST_SIZE : Tok} {tk_PRIME : Tok} {tk_ROOT : Tok} {tk_ROUND : Tok}
    (a__law_deck : PySem.W.nsIn K mainGlobals "_law_deck" = some (some (.ref q__law_deck))) (l__law_deck : K.lookup q__law_deck = some ⟨oc__law_deck, od__law_deck, .func (PySem.W.fnOf "_law_deck" "_law_deck" (defArgs (top 43)) (defBody (top 43)) (defScope (top 43)) .none kV__law_deck dc__law_deck pm__law_deck an__law_deck cd__law_deck ct__law_deck), sl__law_deck⟩) (c__law_deck : PySem.W.codeIn K cd__law_deck "_law_deck" = true) (k__law_deck : PySem.W.keepIn K (.ref q__law_deck) = true)
    (a__law_draw : PySem.W.nsIn K mainGlobals "_law_draw" = some (some (.ref q__law_draw))) (l__law_draw : K.lookup q__law_draw = some ⟨oc__law_draw, od__law_draw, .func (PySem.W.fnOf "_law_draw" "_law_draw" (defArgs (top 44)) (defBody (top 44)) (defScope (top 44)) .none kV__law_draw dc__law_draw pm__law_draw an__law_draw cd__law_draw ct__law_draw), sl__law_draw⟩) (c__law_draw : PySem.W.codeIn K cd__law_draw "_law_draw" = true) (k__law_draw : PySem.W.keepIn K (.ref q__law_draw) = true)
    (a_primes_of : PySem.W.nsIn K mainGlobals "primes_of" = some (some (.ref q_primes_of))) (l_primes_of : K.lookup q_primes_of = some ⟨oc_primes_of, od_primes_of, .func (PySem.W.fnOf "primes_of" "primes_of" (defArgs (top 8)) (defBody (top 8)) (defScope (top 8)) .none kV_primes_of dc_primes_of pm_primes_of an_primes_of cd_primes_of ct_primes_of), sl_primes_of⟩) (c_primes_of : PySem.W.codeIn K cd_primes_of "primes_of" = true) (k_primes_of : PySem.W.keepIn K (.ref q_primes_of) = true)
    (a_is_integer : PySem.W.nsIn K mainGlobals "is_integer" = some (some (.ref q_is_integer))) (l_is_integer : K.lookup q_is_integer = some ⟨oc_is_integer, od_is_integer, .func (PySem.W.fnOf "is_integer" "is_integer" (defArgs (top 9)) (defBody (top 9)) (defScope (top 9)) .none kV_is_integer dc_is_integer pm_is_integer an_is_integer cd_is_integer ct_is_integer), sl_is_integer⟩) (c_is_integer : PySem.W.codeIn K cd_is_integer "is_integer" = true) (k_is_integer : PySem.W.keepIn K (.ref q_is_integer) = true)
    (a_are_integers : PySem.W.nsIn K mainGlobals "are_integers" = some (some (.ref q_are_integers))) (l_are_integers : K.lookup q_are_integers = some ⟨oc_are_integers, od_are_integers, .func (PySem.W.fnOf "are_integers" "are_integers" (defArgs (top 10)) (defBody (top 10)) (defScope (top 10)) .none kV_are_integers dc_are_integers pm_are_integers an_are_integers cd_are_integers ct_are_integers), sl_are_integers⟩) (c_are_integers : PySem.W.codeIn K cd_are_integers "are_integers" = true) (k_are_integers : PySem.W.keepIn K (.ref q_are_integers) = true)
    (a_size : PySem.W.nsIn K mainGlobals "size" = some (some (.ref q_size))) (l_size : K.lookup q_size = some ⟨oc_size, od_size, .func (PySem.W.fnOf "size" "size" (defArgs (top 20)) (defBody (top 20)) (defScope (top 20)) .none kV_size dc_size pm_size an_size cd_size ct_size), sl_size⟩) (c_size : PySem.W.codeIn K cd_size "size" = true) (k_size : PySem.W.keepIn K (.ref q_size) = true)
    (a_are_rings_value : PySem.W.nsIn K mainGlobals "are_rings_value" = some (some (.ref q_are_rings_value))) (l_are_rings_value : K.lookup q_are_rings_value = some ⟨oc_are_rings_value, od_are_rings_value, .func (PySem.W.fnOf "are_rings_value" "are_rings_value" (defArgs (top 14)) (defBody (top 14)) (defScope (top 14)) .none kV_are_rings_value dc_are_rings_value pm_are_rings_value an_are_rings_value cd_are_rings_value ct_are_rings_value), sl_are_rings_value⟩) (c_are_rings_value : PySem.W.codeIn K cd_are_rings_value "are_rings_value" = true) (k_are_rings_value : PySem.W.keepIn K (.ref q_are_rings_value) = true)
    (a_is_place_value : PySem.W.nsIn K mainGlobals "is_place_value" = some (some (.ref q_is_place_value))) (l_is_place_value : K.lookup q_is_place_value = some ⟨oc_is_place_value, od_is_place_value, .func (PySem.W.fnOf "is_place_value" "is_place_value" (defArgs (top 15)) (defBody (top 15)) (defScope (top 15)) .none kV_is_place_value dc_is_place_value pm_is_place_value an_is_place_value cd_is_place_value ct_is_place_value), sl_is_place_value⟩) (c_is_place_value : PySem.W.codeIn K cd_is_place_value "is_place_value" = true) (k_is_place_value : PySem.W.keepIn K (.ref q_is_place_value) = true)
    (a_is_lot_value : PySem.W.nsIn K mainGlobals "is_lot_value" = some (some (.ref q_is_lot_value))) (l_is_lot_value : K.lookup q_is_lot_value = some ⟨oc_is_lot_value, od_is_lot_value, .func (PySem.W.fnOf "is_lot_value" "is_lot_value" (defArgs (top 16)) (defBody (top 16)) (defScope (top 16)) .none kV_is_lot_value dc_is_lot_value pm_is_lot_value an_is_lot_value cd_is_lot_value ct_is_lot_value), sl_is_lot_value⟩) (c_is_lot_value : PySem.W.codeIn K cd_is_lot_value "is_lot_value" = true) (k_is_lot_value : PySem.W.keepIn K (.ref q_is_lot_value) = true)
    (a_need_rings : PySem.W.nsIn K mainGlobals "need_rings" = some (some (.ref q_need_rings))) (l_need_rings : K.lookup q_need_rings = some ⟨oc_need_rings, od_need_rings, .func (PySem.W.fnOf "need_rings" "need_rings" (defArgs (top 17)) (defBody (top 17)) (defScope (top 17)) .none kV_need_rings dc_need_rings pm_need_rings an_need_rings cd_need_rings ct_need_rings), sl_need_rings⟩) (c_need_rings : PySem.W.codeIn K cd_need_rings "need_rings" = true) (k_need_rings : PySem.W.keepIn K (.ref q_need_rings) = true)
    (a_need_lot : PySem.W.nsIn K mainGlobals "need_lot" = some (some (.ref q_need_lot))) (l_need_lot : K.lookup q_need_lot = some ⟨oc_need_lot, od_need_lot, .func (PySem.W.fnOf "need_lot" "need_lot" (defArgs (top 18)) (defBody (top 18)) (defScope (top 18)) .none kV_need_lot dc_need_lot pm_need_lot an_need_lot cd_need_lot ct_need_lot), sl_need_lot⟩) (c_need_lot : PySem.W.codeIn K cd_need_lot "need_lot" = true) (k_need_lot : PySem.W.keepIn K (.ref q_need_lot) = true)
    (a_need_count : PySem.W.nsIn K mainGlobals "need_count" = some (some (.ref q_need_count))) (l_need_count : K.lookup q_need_count = some ⟨oc_need_count, od_need_count, .func (PySem.W.fnOf "need_count" "need_count" (defArgs (top 19)) (defBody (top 19)) (defScope (top 19)) (.ref T_need_count) kV_need_count dc_need_count pm_need_count an_need_count cd_need_count ct_need_count), sl_need_count⟩) (c_need_count : PySem.W.codeIn K cd_need_count "need_count" = true) (k_need_count : PySem.W.keepIn K (.ref q_need_count) = true)
    (t_need_count : K.lookup T_need_count = some ⟨tc_need_count, td_need_count, .seq [Value.none].toArray tn_need_count, ts_need_count⟩)
    (a_order : PySem.W.nsIn K mainGlobals "order" = some (some (.ref q_order))) (l_order : K.lookup q_order = some ⟨oc_order, od_order, .func (PySem.W.fnOf "order" "order" (defArgs (top 21)) (defBody (top 21)) (defScope (top 21)) .none kV_order dc_order pm_order an_order cd_order ct_order), sl_order⟩) (c_order : PySem.W.codeIn K cd_order "order" = true) (k_order : PySem.W.keepIn K (.ref q_order) = true)
    (a_places_of : PySem.W.nsIn K mainGlobals "places_of" = some (some (.ref q_places_of))) (l_places_of : K.lookup q_places_of = some ⟨oc_places_of, od_places_of, .func (PySem.W.fnOf "places_of" "places_of" (defArgs (top 22)) (defBody (top 22)) (defScope (top 22)) .none kV_places_of dc_places_of pm_places_of an_places_of cd_places_of ct_places_of), sl_places_of⟩) (c_places_of : PySem.W.codeIn K cd_places_of "places_of" = true) (k_places_of : PySem.W.keepIn K (.ref q_places_of) = true)
    (a_pair_of : PySem.W.nsIn K mainGlobals "pair_of" = some (some (.ref q_pair_of))) (l_pair_of : K.lookup q_pair_of = some ⟨oc_pair_of, od_pair_of, .func (PySem.W.fnOf "pair_of" "pair_of" (defArgs (top 23)) (defBody (top 23)) (defScope (top 23)) .none kV_pair_of dc_pair_of pm_pair_of an_pair_of cd_pair_of ct_pair_of), sl_pair_of⟩) (c_pair_of : PySem.W.codeIn K cd_pair_of "pair_of" = true) (k_pair_of : PySem.W.keepIn K (.ref q_pair_of) = true)
    (a_choices_for : PySem.W.nsIn K mainGlobals "choices_for" = some (some (.ref q_choices_for))) (l_choices_for : K.lookup q_choices_for = some ⟨oc_choices_for, od_choices_for, .func (PySem.W.fnOf "choices_for" "choices_for" (defArgs (top 25)) (defBody (top 25)) (defScope (top 25)) .none kV_choices_for dc_choices_for pm_choices_for an_choices_for cd_choices_for ct_choices_for), sl_choices_for⟩) (c_choices_for : PySem.W.codeIn K cd_choices_for "choices_for" = true) (k_choices_for : PySem.W.keepIn K (.ref q_choices_for) = true)
    (a_least_voices : PySem.W.nsIn K mainGlobals "least_voices" = some (some (.ref q_least_voices))) (l_least_voices : K.lookup q_least_voices = some ⟨oc_least_voices, od_least_voices, .func (PySem.W.fnOf "least_voices" "least_voices" (defArgs (top 26)) (defBody (top 26)) (defScope (top 26)) .none kV_least_voices dc_least_voices pm_least_voices an_least_voices cd_least_voices ct_least_voices), sl_least_voices⟩) (c_least_voices : PySem.W.codeIn K cd_least_voices "least_voices" = true) (k_least_voices : PySem.W.keepIn K (.ref q_least_voices) = true)
    (a_turn_remainders : PySem.W.nsIn K mainGlobals "turn_remainders" = some (some (.ref q_turn_remainders))) (l_turn_remainders : K.lookup q_turn_remainders = some ⟨oc_turn_remainders, od_turn_remainders, .func (PySem.W.fnOf "turn_remainders" "turn_remainders" (defArgs (top 31)) (defBody (top 31)) (defScope (top 31)) .none kV_turn_remainders dc_turn_remainders pm_turn_remainders an_turn_remainders cd_turn_remainders ct_turn_remainders), sl_turn_remainders⟩) (c_turn_remainders : PySem.W.codeIn K cd_turn_remainders "turn_remainders" = true) (k_turn_remainders : PySem.W.keepIn K (.ref q_turn_remainders) = true)
    (a_rank_by_remainders : PySem.W.nsIn K mainGlobals "rank_by_remainders" = some (some (.ref q_rank_by_remainders))) (l_rank_by_remainders : K.lookup q_rank_by_remainders = some ⟨oc_rank_by_remainders, od_rank_by_remainders, .func (PySem.W.fnOf "rank_by_remainders" "rank_by_remainders" (defArgs (top 32)) (defBody (top 32)) (defScope (top 32)) .none kV_rank_by_remainders dc_rank_by_remainders pm_rank_by_remainders an_rank_by_remainders cd_rank_by_remainders ct_rank_by_remainders), sl_rank_by_remainders⟩) (c_rank_by_remainders : PySem.W.codeIn K cd_rank_by_remainders "rank_by_remainders" = true) (k_rank_by_remainders : PySem.W.keepIn K (.ref q_rank_by_remainders) = true)
    (a_first_gap : PySem.W.nsIn K mainGlobals "first_gap" = some (some (.ref q_first_gap))) (l_first_gap : K.lookup q_first_gap = some ⟨oc_first_gap, od_first_gap, .func (PySem.W.fnOf "first_gap" "first_gap" (defArgs (top 33)) (defBody (top 33)) (defScope (top 33)) .none kV_first_gap dc_first_gap pm_first_gap an_first_gap cd_first_gap ct_first_gap), sl_first_gap⟩) (c_first_gap : PySem.W.codeIn K cd_first_gap "first_gap" = true) (k_first_gap : PySem.W.keepIn K (.ref q_first_gap) = true)
    (a_places_asked : PySem.W.nsIn K mainGlobals "places_asked" = some (some (.ref q_places_asked))) (l_places_asked : K.lookup q_places_asked = some ⟨oc_places_asked, od_places_asked, .func (PySem.W.fnOf "places_asked" "places_asked" (defArgs (top 34)) (defBody (top 34)) (defScope (top 34)) .none kV_places_asked dc_places_asked pm_places_asked an_places_asked cd_places_asked ct_places_asked), sl_places_asked⟩) (c_places_asked : PySem.W.codeIn K cd_places_asked "places_asked" = true) (k_places_asked : PySem.W.keepIn K (.ref q_places_asked) = true)
    (a_are_telling : PySem.W.nsIn K mainGlobals "are_telling" = some (some (.ref q_are_telling))) (l_are_telling : K.lookup q_are_telling = some ⟨oc_are_telling, od_are_telling, .func (PySem.W.fnOf "are_telling" "are_telling" (defArgs (top 35)) (defBody (top 35)) (defScope (top 35)) .none kV_are_telling dc_are_telling pm_are_telling an_are_telling cd_are_telling ct_are_telling), sl_are_telling⟩) (c_are_telling : PySem.W.codeIn K cd_are_telling "are_telling" = true) (k_are_telling : PySem.W.keepIn K (.ref q_are_telling) = true)
    (a_sure_many : PySem.W.nsIn K mainGlobals "sure_many" = some (some (.ref q_sure_many))) (l_sure_many : K.lookup q_sure_many = some ⟨oc_sure_many, od_sure_many, .func (PySem.W.fnOf "sure_many" "sure_many" (defArgs (top 36)) (defBody (top 36)) (defScope (top 36)) .none kV_sure_many dc_sure_many pm_sure_many an_sure_many cd_sure_many ct_sure_many), sl_sure_many⟩) (c_sure_many : PySem.W.codeIn K cd_sure_many "sure_many" = true) (k_sure_many : PySem.W.keepIn K (.ref q_sure_many) = true)
    (a_need_counts : PySem.W.nsIn K mainGlobals "need_counts" = some (some (.ref q_need_counts))) (l_need_counts : K.lookup q_need_counts = some ⟨oc_need_counts, od_need_counts, .func (PySem.W.fnOf "need_counts" "need_counts" (defArgs (top 38)) (defBody (top 38)) (defScope (top 38)) .none kV_need_counts dc_need_counts pm_need_counts an_need_counts cd_need_counts ct_need_counts), sl_need_counts⟩) (c_need_counts : PySem.W.codeIn K cd_need_counts "need_counts" = true) (k_need_counts : PySem.W.keepIn K (.ref q_need_counts) = true)
    (a_need_telling : PySem.W.nsIn K mainGlobals "need_telling" = some (some (.ref q_need_telling))) (l_need_telling : K.lookup q_need_telling = some ⟨oc_need_telling, od_need_telling, .func (PySem.W.fnOf "need_telling" "need_telling" (defArgs (top 39)) (defBody (top 39)) (defScope (top 39)) .none kV_need_telling dc_need_telling pm_need_telling an_need_telling cd_need_telling ct_need_telling), sl_need_telling⟩) (c_need_telling : PySem.W.codeIn K cd_need_telling "need_telling" = true) (k_need_telling : PySem.W.keepIn K (.ref q_need_telling) = true)
    (a_does_tell : PySem.W.nsIn K mainGlobals "does_tell" = some (some (.ref q_does_tell))) (l_does_tell : K.lookup q_does_tell = some ⟨oc_does_tell, od_does_tell, .func (PySem.W.fnOf "does_tell" "does_tell" (defArgs (top 40)) (defBody (top 40)) (defScope (top 40)) .none kV_does_tell dc_does_tell pm_does_tell an_does_tell cd_does_tell ct_does_tell), sl_does_tell⟩) (c_does_tell : PySem.W.codeIn K cd_does_tell "does_tell" = true) (k_does_tell : PySem.W.keepIn K (.ref q_does_tell) = true)
    (a_sure_number : PySem.W.nsIn K mainGlobals "sure_number" = some (some (.ref q_sure_number))) (l_sure_number : K.lookup q_sure_number = some ⟨oc_sure_number, od_sure_number, .func (PySem.W.fnOf "sure_number" "sure_number" (defArgs (top 41)) (defBody (top 41)) (defScope (top 41)) .none kV_sure_number dc_sure_number pm_sure_number an_sure_number cd_sure_number ct_sure_number), sl_sure_number⟩) (c_sure_number : PySem.W.codeIn K cd_sure_number "sure_number" = true) (k_sure_number : PySem.W.keepIn K (.ref q_sure_number) = true)
    (a__law_pick : PySem.W.nsIn K mainGlobals "_law_pick" = some (some (.ref q__law_pick))) (l__law_pick : K.lookup q__law_pick = some ⟨oc__law_pick, od__law_pick, .func (PySem.W.fnOf "_law_pick" "_law_pick" (defArgs (top 45)) (defBody (top 45)) (defScope (top 45)) .none kV__law_pick dc__law_pick pm__law_pick an__law_pick cd__law_pick ct__law_pick), sl__law_pick⟩) (c__law_pick : PySem.W.codeIn K cd__law_pick "_law_pick" = true) (k__law_pick : PySem.W.keepIn K (.ref q__law_pick) = true)
    (a__law_common : PySem.W.nsIn K mainGlobals "_law_common" = some (some (.ref q__law_common))) (l__law_common : K.lookup q__law_common = some ⟨oc__law_common, od__law_common, .func (PySem.W.fnOf "_law_common" "_law_common" (defArgs (top 46)) (defBody (top 46)) (defScope (top 46)) .none kV__law_common dc__law_common pm__law_common an__law_common cd__law_common ct__law_common), sl__law_common⟩) (c__law_common : PySem.W.codeIn K cd__law_common "_law_common" = true) (k__law_common : PySem.W.keepIn K (.ref q__law_common) = true)
    (a__law_shuffled : PySem.W.nsIn K mainGlobals "_law_shuffled" = some (some (.ref q__law_shuffled))) (l__law_shuffled : K.lookup q__law_shuffled = some ⟨oc__law_shuffled, od__law_shuffled, .func (PySem.W.fnOf "_law_shuffled" "_law_shuffled" (defArgs (top 47)) (defBody (top 47)) (defScope (top 47)) .none kV__law_shuffled dc__law_shuffled pm__law_shuffled an__law_shuffled cd__law_shuffled ct__law_shuffled), sl__law_shuffled⟩) (c__law_shuffled : PySem.W.codeIn K cd__law_shuffled "_law_shuffled" = true) (k__law_shuffled : PySem.W.keepIn K (.ref q__law_shuffled) = true)
    (a__law_some_of : PySem.W.nsIn K mainGlobals "_law_some_of" = some (some (.ref q__law_some_of))) (l__law_some_of : K.lookup q__law_some_of = some ⟨oc__law_some_of, od__law_some_of, .func (PySem.W.fnOf "_law_some_of" "_law_some_of" (defArgs (top 48)) (defBody (top 48)) (defScope (top 48)) .none kV__law_some_of dc__law_some_of pm__law_some_of an__law_some_of cd__law_some_of ct__law_some_of), sl__law_some_of⟩) (c__law_some_of : PySem.W.codeIn K cd__law_some_of "_law_some_of" = true) (k__law_some_of : PySem.W.keepIn K (.ref q__law_some_of) = true)
    (a__law_divided : PySem.W.nsIn K mainGlobals "_law_divided" = some (some (.ref q__law_divided))) (l__law_divided : K.lookup q__law_divided = some ⟨oc__law_divided, od__law_divided, .func (PySem.W.fnOf "_law_divided" "_law_divided" (defArgs (top 50)) (defBody (top 50)) (defScope (top 50)) .none kV__law_divided dc__law_divided pm__law_divided an__law_divided cd__law_divided ct__law_divided), sl__law_divided⟩) (c__law_divided : PySem.W.codeIn K cd__law_divided "_law_divided" = true) (k__law_divided : PySem.W.keepIn K (.ref q__law_divided) = true)
    (a__law_ring_polynomial : PySem.W.nsIn K mainGlobals "_law_ring_polynomial" = some (some (.ref q__law_ring_polynomial))) (l__law_ring_polynomial : K.lookup q__law_ring_polynomial = some ⟨oc__law_ring_polynomial, od__law_ring_polynomial, .func (PySem.W.fnOf "_law_ring_polynomial" "_law_ring_polynomial" (defArgs (top 49)) (defBody (top 49)) (defScope (top 49)) .none kV__law_ring_polynomial dc__law_ring_polynomial pm__law_ring_polynomial an__law_ring_polynomial cd__law_ring_polynomial ct__law_ring_polynomial), sl__law_ring_polynomial⟩) (c__law_ring_polynomial : PySem.W.codeIn K cd__law_ring_polynomial "_law_ring_polynomial" = true) (k__law_ring_polynomial : PySem.W.keepIn K (.ref q__law_ring_polynomial) = true)
    (a__law_floor : PySem.W.nsIn K mainGlobals "_law_floor" = some (some (.ref q__law_floor))) (l__law_floor : K.lookup q__law_floor = some ⟨oc__law_floor, od__law_floor, .func (PySem.W.fnOf "_law_floor" "_law_floor" (defArgs (top 51)) (defBody (top 51)) (defScope (top 51)) .none kV__law_floor dc__law_floor pm__law_floor an__law_floor cd__law_floor ct__law_floor), sl__law_floor⟩) (c__law_floor : PySem.W.codeIn K cd__law_floor "_law_floor" = true) (k__law_floor : PySem.W.keepIn K (.ref q__law_floor) = true)
    (a__law_pairing : PySem.W.nsIn K mainGlobals "_law_pairing" = some (some (.ref q__law_pairing))) (l__law_pairing : K.lookup q__law_pairing = some ⟨oc__law_pairing, od__law_pairing, .func (PySem.W.fnOf "_law_pairing" "_law_pairing" (defArgs (top 52)) (defBody (top 52)) (defScope (top 52)) .none kV__law_pairing dc__law_pairing pm__law_pairing an__law_pairing cd__law_pairing ct__law_pairing), sl__law_pairing⟩) (c__law_pairing : PySem.W.codeIn K cd__law_pairing "_law_pairing" = true) (k__law_pairing : PySem.W.keepIn K (.ref q__law_pairing) = true)
    (a__law_root : PySem.W.nsIn K mainGlobals "_law_root" = some (some (.ref q__law_root))) (l__law_root : K.lookup q__law_root = some ⟨oc__law_root, od__law_root, .func (PySem.W.fnOf "_law_root" "_law_root" (defArgs (top 53)) (defBody (top 53)) (defScope (top 53)) .none kV__law_root dc__law_root pm__law_root an__law_root cd__law_root ct__law_root), sl__law_root⟩) (c__law_root : PySem.W.codeIn K cd__law_root "_law_root" = true) (k__law_root : PySem.W.keepIn K (.ref q__law_root) = true)
    (a__law_lines : PySem.W.nsIn K mainGlobals "_law_lines" = some (some (.ref q__law_lines))) (l__law_lines : K.lookup q__law_lines = some ⟨oc__law_lines, od__law_lines, .func (PySem.W.fnOf "_law_lines" "_law_lines" (defArgs (top 54)) (defBody (top 54)) (defScope (top 54)) .none kV__law_lines dc__law_lines pm__law_lines an__law_lines cd__law_lines ct__law_lines), sl__law_lines⟩) (c__law_lines : PySem.W.codeIn K cd__law_lines "_law_lines" = true) (k__law_lines : PySem.W.keepIn K (.ref q__law_lines) = true)
    (a__law_rank : PySem.W.nsIn K mainGlobals "_law_rank" = some (some (.ref q__law_rank))) (l__law_rank : K.lookup q__law_rank = some ⟨oc__law_rank, od__law_rank, .func (PySem.W.fnOf "_law_rank" "_law_rank" (defArgs (top 55)) (defBody (top 55)) (defScope (top 55)) .none kV__law_rank dc__law_rank pm__law_rank an__law_rank cd__law_rank ct__law_rank), sl__law_rank⟩) (c__law_rank : PySem.W.codeIn K cd__law_rank "_law_rank" = true) (k__law_rank : PySem.W.keepIn K (.ref q__law_rank) = true)
    (a__law_least : PySem.W.nsIn K mainGlobals "_law_least" = some (some (.ref q__law_least))) (l__law_least : K.lookup q__law_least = some ⟨oc__law_least, od__law_least, .func (PySem.W.fnOf "_law_least" "_law_least" (defArgs (top 56)) (defBody (top 56)) (defScope (top 56)) .none kV__law_least dc__law_least pm__law_least an__law_least cd__law_least ct__law_least), sl__law_least⟩) (c__law_least : PySem.W.codeIn K cd__law_least "_law_least" = true) (k__law_least : PySem.W.keepIn K (.ref q__law_least) = true)
    (a__law_lots_of : PySem.W.nsIn K mainGlobals "_law_lots_of" = some (some (.ref q__law_lots_of))) (l__law_lots_of : K.lookup q__law_lots_of = some ⟨oc__law_lots_of, od__law_lots_of, .func (PySem.W.fnOf "_law_lots_of" "_law_lots_of" (defArgs (top 57)) (defBody (top 57)) (defScope (top 57)) .none kV__law_lots_of dc__law_lots_of pm__law_lots_of an__law_lots_of cd__law_lots_of ct__law_lots_of), sl__law_lots_of⟩) (c__law_lots_of : PySem.W.codeIn K cd__law_lots_of "_law_lots_of" = true) (k__law_lots_of : PySem.W.keepIn K (.ref q__law_lots_of) = true)
    (a__law_tells : PySem.W.nsIn K mainGlobals "_law_tells" = some (some (.ref q__law_tells))) (l__law_tells : K.lookup q__law_tells = some ⟨oc__law_tells, od__law_tells, .func (PySem.W.fnOf "_law_tells" "_law_tells" (defArgs (top 58)) (defBody (top 58)) (defScope (top 58)) .none kV__law_tells dc__law_tells pm__law_tells an__law_tells cd__law_tells ct__law_tells), sl__law_tells⟩) (c__law_tells : PySem.W.codeIn K cd__law_tells "_law_tells" = true) (k__law_tells : PySem.W.keepIn K (.ref q__law_tells) = true)
    (a__law_tiny_floor : PySem.W.nsIn K mainGlobals "_law_tiny_floor" = some (some (.ref q__law_tiny_floor))) (l__law_tiny_floor : K.lookup q__law_tiny_floor = some ⟨oc__law_tiny_floor, od__law_tiny_floor, .func (PySem.W.fnOf "_law_tiny_floor" "_law_tiny_floor" (defArgs (top 59)) (defBody (top 59)) (defScope (top 59)) .none kV__law_tiny_floor dc__law_tiny_floor pm__law_tiny_floor an__law_tiny_floor cd__law_tiny_floor ct__law_tiny_floor), sl__law_tiny_floor⟩) (c__law_tiny_floor : PySem.W.codeIn K cd__law_tiny_floor "_law_tiny_floor" = true) (k__law_tiny_floor : PySem.W.keepIn K (.ref q__law_tiny_floor) = true)
    (a__law_sure : PySem.W.nsIn K mainGlobals "_law_sure" = some (some (.ref q__law_sure))) (l__law_sure : K.lookup q__law_sure = some ⟨oc__law_sure, od__law_sure, .func (PySem.W.fnOf "_law_sure" "_law_sure" (defArgs (top 60)) (defBody (top 60)) (defScope (top 60)) .none kV__law_sure dc__law_sure pm__law_sure an__law_sure cd__law_sure ct__law_sure), sl__law_sure⟩) (c__law_sure : PySem.W.codeIn K cd__law_sure "_law_sure" = true) (k__law_sure : PySem.W.keepIn K (.ref q__law_sure) = true)
    (a__law_is_small_right : PySem.W.nsIn K mainGlobals "_law_is_small_right" = some (some (.ref q__law_is_small_right))) (l__law_is_small_right : K.lookup q__law_is_small_right = some ⟨oc__law_is_small_right, od__law_is_small_right, .func (PySem.W.fnOf "_law_is_small_right" "_law_is_small_right" (defArgs (top 61)) (defBody (top 61)) (defScope (top 61)) .none kV__law_is_small_right dc__law_is_small_right pm__law_is_small_right an__law_is_small_right cd__law_is_small_right ct__law_is_small_right), sl__law_is_small_right⟩) (c__law_is_small_right : PySem.W.codeIn K cd__law_is_small_right "_law_is_small_right" = true) (k__law_is_small_right : PySem.W.keepIn K (.ref q__law_is_small_right) = true)
    (a_law : PySem.W.nsIn K mainGlobals "law" = some (some (.ref q_law))) (l_law : K.lookup q_law = some ⟨oc_law, od_law, .func (PySem.W.fnOf "law" "law" (defArgs (top 62)) (defBody (top 62)) (defScope (top 62)) .none kV_law dc_law pm_law an_law cd_law ct_law), sl_law⟩) (c_law : PySem.W.codeIn K cd_law "law" = true) (k_law : PySem.W.keepIn K (.ref q_law) = true)
    (z_abs : PySem.W.nsIn K mainGlobals "abs" = some none)
    (z_all : PySem.W.nsIn K mainGlobals "all" = some none)
    (z_bool : PySem.W.nsIn K mainGlobals "bool" = some none)
    (z_enumerate : PySem.W.nsIn K mainGlobals "enumerate" = some none)
    (z_int : PySem.W.nsIn K mainGlobals "int" = some none)
    (z_isinstance : PySem.W.nsIn K mainGlobals "isinstance" = some none)
    (z_len : PySem.W.nsIn K mainGlobals "len" = some none)
    (z_list : PySem.W.nsIn K mainGlobals "list" = some none)
    (z_max : PySem.W.nsIn K mainGlobals "max" = some none)
    (z_min : PySem.W.nsIn K mainGlobals "min" = some none)
    (z_range : PySem.W.nsIn K mainGlobals "range" = some none)
    (z_repr : PySem.W.nsIn K mainGlobals "repr" = some none)
    (z_sorted : PySem.W.nsIn K mainGlobals "sorted" = some none)
    (z_sum : PySem.W.nsIn K mainGlobals "sum" = some none)
    (z_tuple : PySem.W.nsIn K mainGlobals "tuple" = some none)
    (z_zip : PySem.W.nsIn K mainGlobals "zip" = some none)
    (v_MOST_RINGS : PySem.W.nsIn K mainGlobals "MOST_RINGS" = some (some (.int 4 tk_MOST_RINGS)))
    (v_MOST_SIZE : PySem.W.nsIn K mainGlobals "MOST_SIZE" = some (some (.int 60 tk_MOST_SIZE)))
    (v_PRIME : PySem.W.nsIn K mainGlobals "PRIME" = some (some (.int 1000000000000002961 tk_PRIME)))
    (v_ROOT : PySem.W.nsIn K mainGlobals "ROOT" = some (some (.int 989038565289215304 tk_ROOT)))
    (v_ROUND : PySem.W.nsIn K mainGlobals "ROUND" = some (some (.int 840 tk_ROUND)))
    (g_combinations : PySem.W.nsIn K mainGlobals "combinations" = some (some (.type "itertools.combinations")))
    (g_gcd : PySem.W.nsIn K mainGlobals "gcd" = some (some (.builtin "math.gcd"))) :
    ∃ fd : FuncData, (∀ (s : Shared) (u : Value), BindsTo s fd ⟨[u], []⟩ [("script", u)]) ∧ ∀ base : Heap, K.In base → base.Ns mainGlobals mg → FnG l.prog w K mg base 9 fa fd ["script"] (spOf K 1 (f_law E0)) := by
  have T : Txt K mg := ⟨PySem.W.mg_none_of X G z_abs, PySem.W.mg_none_of X G z_all, PySem.W.mg_none_of X G z_bool, PySem.W.mg_none_of X G z_enumerate, PySem.W.mg_none_of X G z_int, PySem.W.mg_none_of X G z_isinstance, PySem.W.mg_none_of X G z_len, PySem.W.mg_none_of X G z_list, PySem.W.mg_none_of X G z_max, PySem.W.mg_none_of X G z_min, PySem.W.mg_none_of X G z_range, PySem.W.mg_none_of X G z_repr, PySem.W.mg_none_of X G z_sorted, PySem.W.mg_none_of X G z_sum, PySem.W.mg_none_of X G z_tuple, PySem.W.mg_none_of X G z_zip, ⟨_, PySem.W.mg_of X G v_MOST_RINGS⟩, ⟨_, PySem.W.mg_of X G v_MOST_SIZE⟩, ⟨_, PySem.W.mg_of X G v_PRIME⟩, ⟨_, PySem.W.mg_of X G v_ROOT⟩, ⟨_, PySem.W.mg_of X G v_ROUND⟩, PySem.W.mg_of X G g_combinations, PySem.W.mg_of X G g_gcd⟩
  have e := hfa.symm.trans (PySem.W.mg_of X G a_law)
  cases e
  have FL : Fun K "law" "law" (top 62) fa _ := fun_mk l_law c_law k_law
  refine ⟨PySem.W.fnOf "law" "law" (defArgs (top 62)) (defBody (top 62)) (defScope (top 62)) .none kV_law dc_law pm_law an_law cd_law ct_law, fun s v => .of_eq rfl, fun base _ _ => ?_⟩
  obtain ⟨fa', fd', h1, h2, h3⟩ := all_ok (P := l.prog) (w := w) (base := base) T (fun_at X G a__law_deck l__law_deck c__law_deck k__law_deck) (fun_at X G a__law_draw l__law_draw c__law_draw k__law_draw) (fun_at X G a_primes_of l_primes_of c_primes_of k_primes_of) (fun_at X G a_is_integer l_is_integer c_is_integer k_is_integer) (fun_at X G a_are_integers l_are_integers c_are_integers k_are_integers) (fun_at X G a_size l_size c_size k_size) (fun_at X G a_are_rings_value l_are_rings_value c_are_rings_value k_are_rings_value) (fun_at X G a_is_place_value l_is_place_value c_is_place_value k_is_place_value) (fun_at X G a_is_lot_value l_is_lot_value c_is_lot_value k_is_lot_value) (fun_at X G a_need_rings l_need_rings c_need_rings k_need_rings) (fun_at X G a_need_lot l_need_lot c_need_lot k_need_lot) (fun_atD X G (by simp) (.cons rfl .nil) a_need_count l_need_count c_need_count k_need_count t_need_count) (fun_at X G a_order l_order c_order k_order) (fun_at X G a_places_of l_places_of c_places_of k_places_of) (fun_at X G a_pair_of l_pair_of c_pair_of k_pair_of) (fun_at X G a_choices_for l_choices_for c_choices_for k_choices_for) (fun_at X G a_least_voices l_least_voices c_least_voices k_least_voices) (fun_at X G a_turn_remainders l_turn_remainders c_turn_remainders k_turn_remainders) (fun_at X G a_rank_by_remainders l_rank_by_remainders c_rank_by_remainders k_rank_by_remainders) (fun_at X G a_first_gap l_first_gap c_first_gap k_first_gap) (fun_at X G a_places_asked l_places_asked c_places_asked k_places_asked) (fun_at X G a_are_telling l_are_telling c_are_telling k_are_telling) (fun_at X G a_sure_many l_sure_many c_sure_many k_sure_many) (fun_at X G a_need_counts l_need_counts c_need_counts k_need_counts) (fun_at X G a_need_telling l_need_telling c_need_telling k_need_telling) (fun_at X G a_does_tell l_does_tell c_does_tell k_does_tell) (fun_at X G a_sure_number l_sure_number c_sure_number k_sure_number) (fun_at X G a__law_pick l__law_pick c__law_pick k__law_pick) (fun_at X G a__law_common l__law_common c__law_common k__law_common) (fun_at X G a__law_shuffled l__law_shuffled c__law_shuffled k__law_shuffled) (fun_at X G a__law_some_of l__law_some_of c__law_some_of k__law_some_of) (fun_at X G a__law_divided l__law_divided c__law_divided k__law_divided) (fun_at X G a__law_ring_polynomial l__law_ring_polynomial c__law_ring_polynomial k__law_ring_polynomial) (fun_at X G a__law_floor l__law_floor c__law_floor k__law_floor) (fun_at X G a__law_pairing l__law_pairing c__law_pairing k__law_pairing) (fun_at X G a__law_root l__law_root c__law_root k__law_root) (fun_at X G a__law_lines l__law_lines c__law_lines k__law_lines) (fun_at X G a__law_rank l__law_rank c__law_rank k__law_rank) (fun_at X G a__law_least l__law_least c__law_least k__law_least) (fun_at X G a__law_lots_of l__law_lots_of c__law_lots_of k__law_lots_of) (fun_at X G a__law_tells l__law_tells c__law_tells k__law_tells) (fun_at X G a__law_tiny_floor l__law_tiny_floor c__law_tiny_floor k__law_tiny_floor) (fun_at X G a__law_sure l__law_sure c__law_sure k__law_sure) (fun_at X G a__law_is_small_right l__law_is_small_right c__law_is_small_right k__law_is_small_right) (fun_at X G a_law l_law c_law k_law)
  rw [hfa] at h1
  cases h1
  exact fn_sameG FL h2 h3
end K31

open PySem PySem.W PyProof.Rows in
set_option maxRecDepth 100000 in
set_option maxHeartbeats 0 in
theorem PySem.Challenge.cw_ringvoices_k31_whole_numbers_of_labels_t_holds : PySem.Challenge.rw_ringvoices_k31_whole_numbers_of_labels_t.Holds := by
  w_on; o_law; k_head; (case hw => w_witness2)
  k_fill
  refine DL.walk_allG (l := PySem.Challenge.rw_ringvoices_k31_whole_numbers_of_labels_t) (k := 9) (f := K31.f_law K31.E0) rfl ⟨rfl, by decide, by decide⟩ rfl (fun w h Y => PySem.W.kIn_of Y) K31.plain ?F
  case F =>
    intro w mg fa h KX G hmg
    refine' K31.all_mk KX G hmg ?a__law_deck ?l__law_deck ?c__law_deck ?k__law_deck ?a__law_draw ?l__law_draw ?c__law_draw ?k__law_draw ?a_primes_of ?l_primes_of ?c_primes_of ?k_primes_of ?a_is_integer ?l_is_integer ?c_is_integer ?k_is_integer ?a_are_integers ?l_are_integers ?c_are_integers ?k_are_integers ?a_size ?l_size ?c_size ?k_size ?a_are_rings_value ?l_are_rings_value ?c_are_rings_value ?k_are_rings_value ?a_is_place_value ?l_is_place_value ?c_is_place_value ?k_is_place_value ?a_is_lot_value ?l_is_lot_value ?c_is_lot_value ?k_is_lot_value ?a_need_rings ?l_need_rings ?c_need_rings ?k_need_rings ?a_need_lot ?l_need_lot ?c_need_lot ?k_need_lot ?a_need_count ?l_need_count ?c_need_count ?k_need_count ?t_need_count ?a_order ?l_order ?c_order ?k_order ?a_places_of ?l_places_of ?c_places_of ?k_places_of ?a_pair_of ?l_pair_of ?c_pair_of ?k_pair_of ?a_choices_for ?l_choices_for ?c_choices_for ?k_choices_for ?a_least_voices ?l_least_voices ?c_least_voices ?k_least_voices ?a_turn_remainders ?l_turn_remainders ?c_turn_remainders ?k_turn_remainders ?a_rank_by_remainders ?l_rank_by_remainders ?c_rank_by_remainders ?k_rank_by_remainders ?a_first_gap ?l_first_gap ?c_first_gap ?k_first_gap ?a_places_asked ?l_places_asked ?c_places_asked ?k_places_asked ?a_are_telling ?l_are_telling ?c_are_telling ?k_are_telling ?a_sure_many ?l_sure_many ?c_sure_many ?k_sure_many ?a_need_counts ?l_need_counts ?c_need_counts ?k_need_counts ?a_need_telling ?l_need_telling ?c_need_telling ?k_need_telling ?a_does_tell ?l_does_tell ?c_does_tell ?k_does_tell ?a_sure_number ?l_sure_number ?c_sure_number ?k_sure_number ?a__law_pick ?l__law_pick ?c__law_pick ?k__law_pick ?a__law_common ?l__law_common ?c__law_common ?k__law_common ?a__law_shuffled ?l__law_shuffled ?c__law_shuffled ?k__law_shuffled ?a__law_some_of ?l__law_some_of ?c__law_some_of ?k__law_some_of ?a__law_divided ?l__law_divided ?c__law_divided ?k__law_divided ?a__law_ring_polynomial ?l__law_ring_polynomial ?c__law_ring_polynomial ?k__law_ring_polynomial ?a__law_floor ?l__law_floor ?c__law_floor ?k__law_floor ?a__law_pairing ?l__law_pairing ?c__law_pairing ?k__law_pairing ?a__law_root ?l__law_root ?c__law_root ?k__law_root ?a__law_lines ?l__law_lines ?c__law_lines ?k__law_lines ?a__law_rank ?l__law_rank ?c__law_rank ?k__law_rank ?a__law_least ?l__law_least ?c__law_least ?k__law_least ?a__law_lots_of ?l__law_lots_of ?c__law_lots_of ?k__law_lots_of ?a__law_tells ?l__law_tells ?c__law_tells ?k__law_tells ?a__law_tiny_floor ?l__law_tiny_floor ?c__law_tiny_floor ?k__law_tiny_floor ?a__law_sure ?l__law_sure ?c__law_sure ?k__law_sure ?a__law_is_small_right ?l__law_is_small_right ?c__law_is_small_right ?k__law_is_small_right ?a_law ?l_law ?c_law ?k_law ?z_abs ?z_all ?z_bool ?z_enumerate ?z_int ?z_isinstance ?z_len ?z_list ?z_max ?z_min ?z_range ?z_repr ?z_sorted ?z_sum ?z_tuple ?z_zip ?v_MOST_RINGS ?v_MOST_SIZE ?v_PRIME ?v_ROOT ?v_ROUND ?g_combinations ?g_gcd
    (case a__law_deck => k_is)
    (case l__law_deck => k_is)
    (case c__law_deck => k_is)
    (case k__law_deck => k_is)
    (case a__law_draw => k_is)
    (case l__law_draw => k_is)
    (case c__law_draw => k_is)
    (case k__law_draw => k_is)
    (case a_primes_of => k_is)
    (case l_primes_of => k_is)
    (case c_primes_of => k_is)
    (case k_primes_of => k_is)
    (case a_is_integer => k_is)
    (case l_is_integer => k_is)
    (case c_is_integer => k_is)
    (case k_is_integer => k_is)
    (case a_are_integers => k_is)
    (case l_are_integers => k_is)
    (case c_are_integers => k_is)
    (case k_are_integers => k_is)
    (case a_size => k_is)
    (case l_size => k_is)
    (case c_size => k_is)
    (case k_size => k_is)
    (case a_are_rings_value => k_is)
    (case l_are_rings_value => k_is)
    (case c_are_rings_value => k_is)
    (case k_are_rings_value => k_is)
    (case a_is_place_value => k_is)
    (case l_is_place_value => k_is)
    (case c_is_place_value => k_is)
    (case k_is_place_value => k_is)
    (case a_is_lot_value => k_is)
    (case l_is_lot_value => k_is)
    (case c_is_lot_value => k_is)
    (case k_is_lot_value => k_is)
    (case a_need_rings => k_is)
    (case l_need_rings => k_is)
    (case c_need_rings => k_is)
    (case k_need_rings => k_is)
    (case a_need_lot => k_is)
    (case l_need_lot => k_is)
    (case c_need_lot => k_is)
    (case k_need_lot => k_is)
    (case a_need_count => k_is)
    (case l_need_count => k_is)
    (case c_need_count => k_is)
    (case k_need_count => k_is)
    (case t_need_count => k_is)
    (case a_order => k_is)
    (case l_order => k_is)
    (case c_order => k_is)
    (case k_order => k_is)
    (case a_places_of => k_is)
    (case l_places_of => k_is)
    (case c_places_of => k_is)
    (case k_places_of => k_is)
    (case a_pair_of => k_is)
    (case l_pair_of => k_is)
    (case c_pair_of => k_is)
    (case k_pair_of => k_is)
    (case a_choices_for => k_is)
    (case l_choices_for => k_is)
    (case c_choices_for => k_is)
    (case k_choices_for => k_is)
    (case a_least_voices => k_is)
    (case l_least_voices => k_is)
    (case c_least_voices => k_is)
    (case k_least_voices => k_is)
    (case a_turn_remainders => k_is)
    (case l_turn_remainders => k_is)
    (case c_turn_remainders => k_is)
    (case k_turn_remainders => k_is)
    (case a_rank_by_remainders => k_is)
    (case l_rank_by_remainders => k_is)
    (case c_rank_by_remainders => k_is)
    (case k_rank_by_remainders => k_is)
    (case a_first_gap => k_is)
    (case l_first_gap => k_is)
    (case c_first_gap => k_is)
    (case k_first_gap => k_is)
    (case a_places_asked => k_is)
    (case l_places_asked => k_is)
    (case c_places_asked => k_is)
    (case k_places_asked => k_is)
    (case a_are_telling => k_is)
    (case l_are_telling => k_is)
    (case c_are_telling => k_is)
    (case k_are_telling => k_is)
    (case a_sure_many => k_is)
    (case l_sure_many => k_is)
    (case c_sure_many => k_is)
    (case k_sure_many => k_is)
    (case a_need_counts => k_is)
    (case l_need_counts => k_is)
    (case c_need_counts => k_is)
    (case k_need_counts => k_is)
    (case a_need_telling => k_is)
    (case l_need_telling => k_is)
    (case c_need_telling => k_is)
    (case k_need_telling => k_is)
    (case a_does_tell => k_is)
    (case l_does_tell => k_is)
    (case c_does_tell => k_is)
    (case k_does_tell => k_is)
    (case a_sure_number => k_is)
    (case l_sure_number => k_is)
    (case c_sure_number => k_is)
    (case k_sure_number => k_is)
    (case a__law_pick => k_is)
    (case l__law_pick => k_is)
    (case c__law_pick => k_is)
    (case k__law_pick => k_is)
    (case a__law_common => k_is)
    (case l__law_common => k_is)
    (case c__law_common => k_is)
    (case k__law_common => k_is)
    (case a__law_shuffled => k_is)
    (case l__law_shuffled => k_is)
    (case c__law_shuffled => k_is)
    (case k__law_shuffled => k_is)
    (case a__law_some_of => k_is)
    (case l__law_some_of => k_is)
    (case c__law_some_of => k_is)
    (case k__law_some_of => k_is)
    (case a__law_divided => k_is)
    (case l__law_divided => k_is)
    (case c__law_divided => k_is)
    (case k__law_divided => k_is)
    (case a__law_ring_polynomial => k_is)
    (case l__law_ring_polynomial => k_is)
    (case c__law_ring_polynomial => k_is)
    (case k__law_ring_polynomial => k_is)
    (case a__law_floor => k_is)
    (case l__law_floor => k_is)
    (case c__law_floor => k_is)
    (case k__law_floor => k_is)
    (case a__law_pairing => k_is)
    (case l__law_pairing => k_is)
    (case c__law_pairing => k_is)
    (case k__law_pairing => k_is)
    (case a__law_root => k_is)
    (case l__law_root => k_is)
    (case c__law_root => k_is)
    (case k__law_root => k_is)
    (case a__law_lines => k_is)
    (case l__law_lines => k_is)
    (case c__law_lines => k_is)
    (case k__law_lines => k_is)
    (case a__law_rank => k_is)
    (case l__law_rank => k_is)
    (case c__law_rank => k_is)
    (case k__law_rank => k_is)
    (case a__law_least => k_is)
    (case l__law_least => k_is)
    (case c__law_least => k_is)
    (case k__law_least => k_is)
    (case a__law_lots_of => k_is)
    (case l__law_lots_of => k_is)
    (case c__law_lots_of => k_is)
    (case k__law_lots_of => k_is)
    (case a__law_tells => k_is)
    (case l__law_tells => k_is)
    (case c__law_tells => k_is)
    (case k__law_tells => k_is)
    (case a__law_tiny_floor => k_is)
    (case l__law_tiny_floor => k_is)
    (case c__law_tiny_floor => k_is)
    (case k__law_tiny_floor => k_is)
    (case a__law_sure => k_is)
    (case l__law_sure => k_is)
    (case c__law_sure => k_is)
    (case k__law_sure => k_is)
    (case a__law_is_small_right => k_is)
    (case l__law_is_small_right => k_is)
    (case c__law_is_small_right => k_is)
    (case k__law_is_small_right => k_is)
    (case a_law => k_is)
    (case l_law => k_is)
    (case c_law => k_is)
    (case k_law => k_is)
    (case z_abs => k_is)
    (case z_all => k_is)
    (case z_bool => k_is)
    (case z_enumerate => k_is)
    (case z_int => k_is)
    (case z_isinstance => k_is)
    (case z_len => k_is)
    (case z_list => k_is)
    (case z_max => k_is)
    (case z_min => k_is)
    (case z_range => k_is)
    (case z_repr => k_is)
    (case z_sorted => k_is)
    (case z_sum => k_is)
    (case z_tuple => k_is)
    (case z_zip => k_is)
    (case v_MOST_RINGS => k_is)
    (case v_MOST_SIZE => k_is)
    (case v_PRIME => k_is)
    (case v_ROOT => k_is)
    (case v_ROUND => k_is)
    (case g_combinations => k_is)
    (case g_gcd => k_is)

