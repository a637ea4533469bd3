import PyProof.Rows.All
import Wide.All
import OpenK.AllK
import Wide.FinOn
import HandS.ForSpec
import HandS.ForMost
import HandS.Exc
import HandS.ExcOwn
import HandS.ExcInit
import HandS.ExcIs
import HandS.CallSlots
import HandS.TryOnly
import HandS.Defaults
import HandS.IsInst
import HandS.Wide
import HandS.WideBits
import HandS.SortInts
import HandS.Conv
import HandS.DictTup
import HandS.DictComp
import HandS.ListItems
import HandS.TupAny
import HandS.TupMul
import HandS.Remove
import HandS.Rev
import HandS.Deep
import HandS.ClsMeth
import HandS.HeadEnd
import HandS.HeadHook1
import HandS.HeadHook2
import HandS.Head0
import HandS.Head1
import HandS.Head2
import KE.KDictKeyed
import KE.KDictPairs
import KE.KDictWalk
import KE.KDictLaw
import KE.KDictList
import KE.KStateDown
import HandS.SetFor
import HandS.Flow
import HandS.HeadWalk
import HandS.Lambda
import PySem.Challenge.RW_stoke_k69_parts_of_a_hold
set_option Elab.async false
set_option linter.all false
set_option maxRecDepth 100000
/-! Mini: a small Python core as data (ME, MS), its deterministic meaning over mini values and a mini heap. -/
namespace Mi
open PySem

/-! ### values, objects, outcomes -/
inductive MV where
  | non | bl (b : Bool) | int (i : Int) | str (x : Str)
  | tup (vs : List MV)
  | rol (vs : List MV)
  | ref (n : Nat)
  | exn (c : Nat) (vs : List MV)
  deriving Inhabited
noncomputable instance : DecidableEq MV := fun a b => Classical.propDecidable (a = b)
inductive MO where
  | lst (vs : List MV)
  | dic (lk : Bool) (kvs : List (MV × MV))
  | ins (c : Nat) (fs : List (Str × MV))
  deriving Inhabited
noncomputable instance : DecidableEq MO := fun a b => Classical.propDecidable (a = b)
abbrev MH := List MO
abbrev MEnv := List (Option MV)
/-- an exception in flight: its class, its fields by place -/
structure MX where
  c : Nat
  vs : List MV
inductive R (α : Type) where
  | ok (a : α) (h : MH)
  | exc (x : MX) (h : MH)
  | bad
def R.bind {α β : Type} (r : R α) (f : α → MH → R β) : R β := match r with
  | .ok a h => f a h
  | .exc x h => .exc x h
  | .bad => .bad
inductive Out where
  | nx (σ : MEnv) (h : MH)
  | rt (v : MV) (h : MH)
  | bk (σ : MEnv) (h : MH)
  | ct (σ : MEnv) (h : MH)
  | ex (x : MX) (σ : MEnv) (h : MH)
  | bad
/-- an expression's end, in a statement -/
def R.out {α : Type} (r : R α) (σ : MEnv) (f : α → MH → Out) : Out := match r with
  | .ok a h => f a h
  | .exc x h => .ex x σ h
  | .bad => .bad

/-! ### the text -/
inductive BF where
  | len | abs | int | list | tuple | sorted | min2 | max2 | dict | sum | any | str
  | listRange | listRev | minD | boolF
  deriving DecidableEq, Repr
inductive BM where
  | append | extend | pop0 | popAt | remove | clear | dpop2 | index | join | split
  deriving DecidableEq, Repr
/-- what isinstance asks of -/
inductive Ty where
  | int | bool | list | tuple | dict | str
  | own (c : Nat)
  | valueError
  deriving DecidableEq, Repr
inductive MT where
  | name (i : Nat)
  | two (a b : MT)
  | tup (is : List Nat)
mutual
inductive ME where
  | var (i : Nat)
  | int (i : Int) | bl (b : Bool) | non | str (x : Str)
  | glob (i : Nat)
  | tup (es : MEs) | lst (es : MEs) | dic0
  | bin (op : Operator) (a b : ME)
  | neg (a : ME)
  | cmp (op : CmpOp) (a b : ME)
  | cmp2 (op op' : CmpOp) (a b c : ME)
  | and (a b : ME) | or (a b : ME) | not (a : ME)
  | ite (c a b : ME)
  | idx (a i : ME)
  | sli (a : ME) (lo hi : MO2)
  | fld (a : ME) (x : Str)
  | call (f : Nat) (es : MEs)
  | make (c : Nat) (es : MEs)
  | meth (a : ME) (m : Str) (es : MEs)
  | cmeth (c : Nat) (m : Str) (es : MEs)
  | bf (b : BF) (es : MEs)
  | bm (b : BM) (a : ME) (es : MEs)
  | isi (a : ME) (ts : List Ty) (single : Bool)
  | excIs (i : Nat) (ts : List Ty) (single : Bool)
  | excF (i : Nat) (x : Str)
  | lc (elt : ME) (own : List Nat) (t : MT) (it : MI) (cond : MO2)
  | never
inductive MEs where
  | nil | cons (e : ME) (r : MEs)
inductive MI where
  | seq (e : ME) | rng (es : MEs) | items (e : ME) | vals (e : ME) | keys (e : ME) | rev (e : ME)
inductive MO2 where
  | none | some (e : ME)
end
def MEs.len : MEs → Nat
  | .nil => 0
  | .cons _ r => r.len + 1
mutual
inductive MS where
  | expr (e : ME)
  | asg (t : MT) (e : ME)
  | setF (o : ME) (f : Str) (e : ME)
  | setI (o i e : ME)
  | ret (e : ME) | retN | pass | brk | cont
  | ite (c : ME) (a b : MSs)
  | loop (t : MT) (it : MI) (body : MSs)
  | wh (c : ME) (body : MSs)
  | raise (c : Nat) (es : MEs)
  | tr (body : MSs) (c : Nat) (slot : Option Nat) (suite : MSs)
  | never
inductive MSs where
  | nil | cons (s : MS) (r : MSs)
end
/-- a def: parameters, slots in all, defaults of the last parameters, body -/
structure FnD where
  np : Nat
  ns : Nat
  dfl : List MV
  body : MSs
/-- a class: the own classes above it and itself, whether an exception, its methods (of those above it, too), its fields if an exception with them -/
structure ClD where
  mro : List Nat
  exc : Bool
  meths : List (Str × Nat)
  xf : List Str
structure Prog where
  fns : List FnD
  cls : List ClD
  cons : List (Str × MV)
def Prog.isSub (P : Prog) (c d : Nat) : Bool := match P.cls[c]? with
  | some k => k.mro.contains d
  | none => false
def Prog.meth (P : Prog) (c : Nat) (m : Str) : Option Nat := match P.cls[c]? with
  | some k => k.meths.lookup m
  | none => none
structure Cfg where
  P : Prog
  call : Nat → List MV → MH → R MV

/-! ### operations -/
/-- the items of a list or tuple -/
def seqOf (h : MH) : MV → Option (List MV)
  | .tup vs => some vs
  | .rol vs => some vs
  | .ref n => match h[n]? with
    | some (.lst vs) => some vs
    | _ => none
  | _ => none
/-- as data, lists read -/
def toD (h : MH) : Nat → MV → Option PyData
  | 0, _ => none
  | k + 1, v => match v with
    | .non => some .none
    | .bl b => some (.bool b)
    | .int i => some (.int i)
    | .str x => if PyData.strOk x = true then some (.str x) else none
    | .tup vs => (vs.mapM (toD h k)).map .tuple
    | .ref n => (match h[n]? with
      | some (.lst vs) => (vs.mapM (toD h k)).map .list
      | _ => none)
    | _ => none
/-- what may be a dict's key -/
def isKey : Nat → MV → Bool
  | 0, _ => false
  | k + 1, v => match v with
    | .non => true
    | .int _ => true
    | .str _ => true
    | .tup vs => vs.all (isKey k)
    | _ => false
def isTup : MV → Bool
  | .tup _ => true
  | _ => false
/-- k may be asked of such a dict: keys are all tuples, or none is -/
def okKey : MV → Bool
  | .int _ => true
  | .str _ => true
  | .tup vs => isKey 8 (.tup vs)
  | _ => false
def keyFits (kvs : List (MV × MV)) (k : MV) : Bool := okKey k && kvs.all fun p => isTup p.1 == isTup k
noncomputable def dget (kvs : List (MV × MV)) (k : MV) : Option MV := (kvs.find? fun p => decide (p.1 = k)).map (·.2)
noncomputable def dput (kvs : List (MV × MV)) (k v : MV) : List (MV × MV) :=
  if kvs.any (fun p => decide (p.1 = k)) = true then kvs.map (fun p => if p.1 = k then (p.1, v) else p) else kvs ++ [(k, v)]
noncomputable def ddrop (kvs : List (MV × MV)) (k : MV) : List (MV × MV) := kvs.filter fun p => decide (p.1 ≠ k)
def dictOf (h : MH) : MV → Option (List (MV × MV))
  | .ref n => match h[n]? with
    | some (.dic _ kvs) => some kvs
    | _ => none
  | _ => none
def MulOk (i j : Int) : Prop := i.natAbs.log2 + j.natAbs.log2 < 1000000
def DivOk (j : Int) : Prop := j ≠ 0 ∧ j.natAbs.log2 < 9000
instance (i j : Int) : Decidable (MulOk i j) := by unfold MulOk; infer_instance
instance (j : Int) : Decidable (DivOk j) := by unfold DivOk; infer_instance
def newL (h : MH) (vs : List MV) : R MV := if vs.length ≤ sizeLine then .ok (.ref h.length) (h ++ [.lst vs]) else .bad

def binop (op : Operator) (v w : MV) (h : MH) : R MV := match op with
  | .Add => match v, w with
    | .int i, .int j => .ok (.int (i + j)) h
    | .str x, .str y => if x.length + y.length ≤ sizeLine then .ok (.str (x ++ y)) h else .bad
    | .tup xs, .tup ys => if xs.length + ys.length ≤ sizeLine then .ok (.tup (xs ++ ys)) h else .bad
    | .ref a, .ref b => match h[a]?, h[b]? with
      | some (.lst xs), some (.lst ys) => if xs.length + ys.length ≤ sizeLine then .ok (.ref h.length) (h ++ [.lst (xs ++ ys)]) else .bad
      | _, _ => .bad
    | _, _ => .bad
  | .Sub => match v, w with
    | .int i, .int j => .ok (.int (i - j)) h
    | _, _ => .bad
  | .Mult => match v, w with
    | .int i, .int j => if MulOk i j then .ok (.int (i * j)) h else .bad
    | .ref a, .int k => match h[a]? with
      | some (.lst xs) => if -(2 ^ 63) ≤ k ∧ k < 2 ^ 63 ∧ xs.length * k.toNat ≤ sizeLine then .ok (.ref h.length) (h ++ [.lst (List.replicate k.toNat xs).flatten]) else .bad
      | _ => .bad
    | .tup xs, .int k => if xs ≠ [] ∧ 2 ≤ k ∧ k ≤ 1000 ∧ xs.length ≤ 1000 then .ok (.tup (List.replicate k.toNat xs).flatten) h else .bad
    | _, _ => .bad
  | .Mod => match v, w with
    | .int i, .int j => if j ≠ 0 then .ok (.int (i.fmod j)) h else .bad
    | _, _ => .bad
  | .FloorDiv => match v, w with
    | .int i, .int j => if DivOk j then .ok (.int (i.fdiv j)) h else .bad
    | _, _ => .bad
  | .Pow => match v, w with
    | .int i, .int j => if 0 ≤ j ∧ j ≤ 1000000 ∧ i.natAbs < 2 ^ 64 then .ok (.int (i ^ j.toNat)) h else .bad
    | _, _ => .bad
  | .LShift => match v, w with
    | .int i, .int j => if 0 ≤ j ∧ j ≤ 1000000 ∧ i.natAbs < 2 ^ 64 then .ok (.int (i * 2 ^ j.toNat)) h else .bad
    | _, _ => .bad
  | .RShift => match v, w with
    | .int i, .int j => if 0 ≤ j then .ok (.int (i / 2 ^ j.toNat)) h else .bad
    | _, _ => .bad
  | .BitAnd => match v, w with
    | .int i, .int j => .ok (.int (Builtin.bitAnd i j)) h
    | _, _ => .bad
  | .BitOr => match v, w with
    | .int i, .int j => .ok (.int (Builtin.bitOr i j)) h
    | _, _ => .bad
  | _ => .bad

noncomputable def eqv (h : MH) (v w : MV) : Option Bool := match dictOf h v, dictOf h w with
  | none, none => (match toD h 8 v, toD h 8 w with
    | some d, some e => some (PyData.eqv d e)
    | _, _ => none)
  | _, _ => none
def intLt (v w : MV) (p : Int → Int → Bool) (h : MH) : R MV := match v, w with
  | .int i, .int j => .ok (.bl (p i j)) h
  | _, _ => .bad
/-- x in s -/
noncomputable def inOp (v w : MV) (h : MH) : Option Bool := match dictOf h w with
  | some kvs => if keyFits kvs v = true then some (dget kvs v).isSome else none
  | none => match w with
    | .ref n => (match h[n]? with
      | some (.lst vs) => (match toD h 8 v, vs.mapM (toD h 8) with
        | some d, some ds => some (ds.any fun e => PyData.eqv e d)
        | _, _ => none)
      | _ => none)
    | _ => none
noncomputable def cmpop (op : CmpOp) (v w : MV) (h : MH) : R MV := match op with
  | .Eq => match eqv h v w with
    | some b => .ok (.bl b) h
    | none => .bad
  | .NotEq => match eqv h v w with
    | some b => .ok (.bl (!b)) h
    | none => .bad
  | .Lt => intLt v w (fun i j => decide (i < j)) h
  | .LtE => intLt v w (fun i j => decide (i ≤ j)) h
  | .Gt => intLt v w (fun i j => decide (j < i)) h
  | .GtE => intLt v w (fun i j => decide (j ≤ i)) h
  | .Is => match w with
    | .non => .ok (.bl (decide (v = .non))) h
    | _ => .bad
  | .IsNot => match w with
    | .non => .ok (.bl (!decide (v = .non))) h
    | _ => .bad
  | .In => match inOp v w h with
    | some b => .ok (.bl b) h
    | none => .bad
  | .NotIn => match inOp v w h with
    | some b => .ok (.bl (!b)) h
    | none => .bad
noncomputable def getIx (v i : MV) (h : MH) : R MV := match dictOf h v with
  | some kvs => if keyFits kvs i = true then (match dget kvs i with
      | some w => .ok w h
      | none => .bad) else .bad
  | none => match seqOf h v, i with
    | some vs, .int k => (match L2.atI vs k with
      | some w => .ok w h
      | none => .bad)
    | _, _ => .bad
noncomputable def setIx (v i w : MV) (h : MH) : Option MH := match v with
  | .ref n => (match h[n]? with
    | some (.lst vs) => (match i with
      | .int k => (match L2.ixN vs.length k with
        | some j => some (h.set n (.lst (vs.set j w)))
        | none => none)
      | _ => none)
    | some (.dic false kvs) => if keyFits kvs i = true ∧ kvs.length < sizeLine then some (h.set n (.dic false (dput kvs i w))) else none
    | _ => none)
  | _ => none
def cutM (xs : List MV) (lo hi : Option Int) : List MV := (xs.drop (HT.sIx xs.length 0 lo)).take (HT.sIx xs.length xs.length hi - HT.sIx xs.length 0 lo)
def slice (v : MV) (lo hi : Option Int) (h : MH) : R MV := match v with
  | .ref n => (match h[n]? with
    | some (.lst vs) => .ok (.ref h.length) (h ++ [.lst (cutM vs lo hi)])
    | _ => .bad)
  | .rol vs => .ok (.ref h.length) (h ++ [.lst (cutM vs lo hi)])
  | _ => .bad
def getF (v : MV) (x : Str) (h : MH) : R MV := match v with
  | .ref n => (match h[n]? with
    | some (.ins _ fs) => (match fs.lookup x with
      | some w => .ok w h
      | none => .bad)
    | _ => .bad)
  | _ => .bad
def putFM (f : Str) (v : MV) : List (Str × MV) → List (Str × MV)
  | [] => [(f, v)]
  | (g, x) :: r => if g = f then (g, v) :: r else (g, x) :: putFM f v r
def setFd (v : MV) (x : Str) (w : MV) (h : MH) : Option MH := match v with
  | .ref n => (match h[n]? with
    | some (.ins c fs) => if fs.length < 1000 then some (h.set n (.ins c (putFM x w fs))) else none
    | _ => none)
  | _ => none
/-- truth -/
def truth (v : MV) (h : MH) : Option Bool := match v with
  | .bl b => some b
  | .ref n => (match h[n]? with
    | some (.lst vs) => some (!vs.isEmpty)
    | _ => none)
  | _ => none
def isTy (P : Prog) (h : MH) (v : MV) (t : Ty) : Option Bool := match v with
  | .int _ => some (match t with | .int => true | _ => false)
  | .bl _ => some (match t with | .int => true | .bool => true | _ => false)
  | .non => some false
  | .str _ => some (match t with | .str => true | _ => false)
  | .tup _ => some (match t with | .tuple => true | _ => false)
  | .rol _ => none
  | .ref n => (match h[n]? with
    | some (.lst _) => some (match t with | .list => true | _ => false)
    | some (.dic _ _) => some (match t with | .dict => true | _ => false)
    | some (.ins c _) => some (match t with | .own d => P.isSub c d | _ => false)
    | _ => none)
  | .exn c _ => some (match t with | .own d => P.isSub c d | .valueError => true | _ => false)
def isTys (P : Prog) (h : MH) (v : MV) : List Ty → Option Bool
  | [] => some false
  | t :: ts => match isTy P h v t with
    | some b => (match isTys P h v ts with
      | some b' => some (b || b')
      | none => none)
    | none => none
def b2i0 (p : Bool) : Int := if p = true then 1 else 0
def intsOf (vs : List MV) : Option (List Int) := vs.mapM fun v => match v with
  | .int i => some i
  | _ => none
def rangeV (lo : Int) (n : Nat) : List MV := (List.range n).map fun (k : Nat) => .int (lo + (k : Int))
def rngOf (vs : List MV) : Option (List MV) := match vs with
  | [.int j] => if -(2 ^ 62) ≤ j ∧ j < 2 ^ 62 then some (rangeV 0 j.toNat) else none
  | [.int i, .int j] => if -(2 ^ 62) ≤ i ∧ i < 2 ^ 62 ∧ -(2 ^ 62) ≤ j ∧ j < 2 ^ 62 then some (rangeV i (j - i).toNat) else none
  | _ => none
def insI (a : Int) : List Int → List Int
  | [] => [a]
  | b :: r => if a ≤ b then a :: b :: r else b :: insI a r
def sortI : List Int → List Int
  | [] => []
  | a :: r => insI a (sortI r)
noncomputable def bfn (b : BF) (vs : List MV) (h : MH) : R MV := match b with
  | .len => match vs with
    | [.str x] => if x.length ≤ sizeLine then .ok (.int x.length) h else .bad
    | [v] => (match dictOf h v with
      | some kvs => .ok (.int kvs.length) h
      | none => match seqOf h v with
        | some xs => .ok (.int xs.length) h
        | none => .bad)
    | _ => .bad
  | .abs => match vs with
    | [.int i] => .ok (.int (if i < 0 then -i else i)) h
    | _ => .bad
  | .int => match vs with
    | [.int i] => .ok (.int i) h
    | [.bl k] => .ok (.int (b2i0 k)) h
    | _ => .bad
  | .list => match vs with
    | [v] => (match seqOf h v with
      | some xs => .ok (.ref h.length) (h ++ [.lst xs])
      | none => .bad)
    | _ => .bad
  | .tuple => match vs with
    | [v] => (match seqOf h v with
      | some xs => .ok (.tup xs) h
      | none => .bad)
    | _ => .bad
  | .sorted => match vs with
    | [.ref n] => (match h[n]? with
      | some (.lst xs) => (match intsOf xs with
        | some ns => .ok (.ref h.length) (h ++ [.lst ((sortI ns).map .int)])
        | none => .bad)
      | _ => .bad)
    | _ => .bad
  | .min2 => match vs with
    | [.int i, .int j] => .ok (.int (if j < i then j else i)) h
    | _ => .bad
  | .max2 => match vs with
    | [.int i, .int j] => .ok (.int (if j > i then j else i)) h
    | _ => .bad
  | .dict => match vs with
    | [.ref n] => (match h[n]? with
      | some (.dic false kvs) => .ok (.ref h.length) (h ++ [.dic false kvs])
      | _ => .bad)
    | _ => .bad
  | .listRange => match rngOf vs with
    | some xs => if xs.length ≤ sizeLine then .ok (.ref h.length) (h ++ [.lst xs]) else .bad
    | none => .bad
  | .sum => match vs with
    | [.ref n] => (match h[n]? with
      | some (.lst xs) => (match intsOf xs with
        | some ns => .ok (.int ns.sum) h
        | none => .bad)
      | _ => .bad)
    | _ => .bad
  | _ => .bad
noncomputable def bmeth (b : BM) (v : MV) (vs : List MV) (h : MH) : R MV := match v with
  | .ref n => (match h[n]? with
    | some (.lst xs) => (match b, vs with
      | .append, [y] => if xs.length < sizeLine then .ok .non (h.set n (.lst (xs ++ [y]))) else .bad
      | .extend, [.ref m] => (match h[m]? with
        | some (.lst ys) => if xs.length + ys.length ≤ sizeLine then .ok .non (h.set n (.lst (xs ++ ys))) else .bad
        | _ => .bad)
      | .popAt, [.int i] => if -(2 ^ 63) ≤ i ∧ i < 2 ^ 63 then (match L2.ixN xs.length i with
        | some k => (match xs[k]? with
          | some y => .ok y (h.set n (.lst (xs.eraseIdx k)))
          | none => .bad)
        | none => .bad) else .bad
      | .clear, [] => .ok .non (h.set n (.lst []))
      | .remove, [.int i] => (match intsOf xs with
        | some ns => if i ∈ ns then .ok .non (h.set n (.lst ((ns.eraseIdx (ns.idxOf i)).map .int))) else .bad
        | none => .bad)
      | _, _ => .bad)
    | some (.dic false kvs) => (match b, vs with
      | .clear, [] => .ok .non (h.set n (.dic false []))
      | .dpop2, [k, d] => if keyFits kvs k = true then (match dget kvs k with
        | some w => .ok w (h.set n (.dic false (ddrop kvs k)))
        | none => .ok d h) else .bad
      | _, _ => .bad)
    | _ => .bad)
  | _ => .bad

/-- list, dict, text -/
def kindB (h : MH) : MV → Option Nat
  | .ref n => (match h[n]? with
    | some (.lst _) => some 0
    | some (.dic _ _) => some 1
    | _ => none)
  | .str _ => some 2
  | _ => none
def bmFit : BM → Nat → Bool
  | .append, 0 => true
  | .extend, 0 => true
  | .popAt, 0 => true
  | .clear, 0 => true
  | .remove, 0 => true
  | .clear, 1 => true
  | .dpop2, 1 => true
  | _, _ => false

/-! ### targets -/
def setT : MT → MV → MEnv → Option MEnv
  | .name i, v, σ => some (σ.set i (some v))
  | .two a b, v, σ => match v with
    | .tup [x, y] => (setT a x σ).bind fun σ => setT b y σ
    | _ => none
  | .tup is, v, σ => match v with
    | .tup vs => if vs.length = is.length then some ((is.zip vs).foldl (fun σ p => σ.set p.1 (some p.2)) σ) else none
    | _ => none
def wipeM (σ : MEnv) : List Nat → MEnv
  | [] => σ
  | v :: vs => (wipeM σ vs).set v none

/-! ### loops -/
/-- what is walked: its items; what must stand at each turn -/
inductive Gd where
  | free
  | obj (n : Nat) (o : MO)
  | lock (n : Nat)
noncomputable def Gd.ok (g : Gd) (h : MH) : Bool := match g with
  | .obj n o => decide (h[n]? = some o)
  | _ => true
noncomputable def loopF (g : Gd) (step : MV → MEnv → MH → Out) : List MV → MEnv → MH → Out
  | [], σ, h => if g.ok h = true then .nx σ h else .bad
  | v :: vs, σ, h => if g.ok h = true then (match step v σ h with
      | .nx σ' h' => loopF g step vs σ' h'
      | .ct σ' h' => loopF g step vs σ' h'
      | .bk σ' h' => .nx σ' h'
      | .rt w h' => .rt w h'
      | .ex x σ' h' => .ex x σ' h'
      | .bad => .bad) else .bad
def unlock (n : Nat) (h : MH) : Option MH := match h[n]? with
  | some (.dic true kvs) => some (h.set n (.dic false kvs))
  | _ => none
def Gd.off (g : Gd) (h : MH) : Option MH := match g with
  | .lock n => unlock n h
  | _ => some h
def Gd.offO (g : Gd) (o : Out) : Out := match o with
  | .nx σ h => (match g.off h with | some h' => .nx σ h' | none => .bad)
  | .ct σ h => (match g.off h with | some h' => .ct σ h' | none => .bad)
  | .bk σ h => (match g.off h with | some h' => .bk σ h' | none => .bad)
  | .rt v h => (match g.off h with | some h' => .rt v h' | none => .bad)
  | .ex x σ h => (match g.off h with | some h' => .ex x σ h' | none => .bad)
  | .bad => .bad
noncomputable def lcF (g : Gd) (D : Nat) (step : MV → MH → R (Option MV)) : List MV → MH → R MV
  | [], h => if g.ok h = true then .ok (.ref D) h else .bad
  | v :: vs, h => if g.ok h = true then (match step v h with
      | .ok (some y) h' => (match h'[D]? with
        | some (.lst acc) => if acc.length < sizeLine then lcF g D step vs (h'.set D (.lst (acc ++ [y]))) else .bad
        | _ => .bad)
      | .ok none h' => lcF g D step vs h'
      | _ => .bad) else .bad
inductive Wh (c : MEnv → MH → R Bool) (b : MEnv → MH → Out) : MEnv → MH → Out → Prop
  | no {σ h h'} : c σ h = .ok false h' → Wh c b σ h (.nx σ h')
  | cexc {σ h x h'} : c σ h = .exc x h' → Wh c b σ h (.ex x σ h')
  | nx {σ h h1 σ2 h2 o} : c σ h = .ok true h1 → b σ h1 = .nx σ2 h2 → Wh c b σ2 h2 o → Wh c b σ h o
  | ct {σ h h1 σ2 h2 o} : c σ h = .ok true h1 → b σ h1 = .ct σ2 h2 → Wh c b σ2 h2 o → Wh c b σ h o
  | bk {σ h h1 σ2 h2} : c σ h = .ok true h1 → b σ h1 = .bk σ2 h2 → Wh c b σ h (.nx σ2 h2)
  | rt {σ h h1 v h2} : c σ h = .ok true h1 → b σ h1 = .rt v h2 → Wh c b σ h (.rt v h2)
  | ex {σ h h1 x σ2 h2} : c σ h = .ok true h1 → b σ h1 = .ex x σ2 h2 → Wh c b σ h (.ex x σ2 h2)
noncomputable def whF (c : MEnv → MH → R Bool) (b : MEnv → MH → Out) (σ : MEnv) (h : MH) : Out :=
  open Classical in if x : ∃ o, Wh c b σ h o then x.choose else .bad

/-! ### the meaning -/
mutual
noncomputable def xE (c : Cfg) : ME → MEnv → MH → R MV
  | .var i, σ, h => (match σ[i]? with
    | some (some (.exn _ _)) => .bad
    | some (some v) => .ok v h
    | _ => .bad)
  | .int i, _, h => .ok (.int i) h
  | .bl b, _, h => .ok (.bl b) h
  | .non, _, h => .ok .non h
  | .str x, _, h => .ok (.str x) h
  | .glob i, _, h => (match c.P.cons[i]? with
    | some p => .ok p.2 h
    | none => .bad)
  | .tup es, σ, h => (xEs c es σ h).bind fun vs h => .ok (.tup vs) h
  | .lst es, σ, h => (xEs c es σ h).bind fun vs h => .ok (.ref h.length) (h ++ [.lst vs])
  | .dic0, _, h => .ok (.ref h.length) (h ++ [.dic false []])
  | .bin op a b, σ, h => (xE c a σ h).bind fun v h => (xE c b σ h).bind fun w h => binop op v w h
  | .neg a, σ, h => (xE c a σ h).bind fun v h => (match v with
    | .int i => .ok (.int (-i)) h
    | _ => .bad)
  | .cmp op a b, σ, h => (xE c a σ h).bind fun v h => (xE c b σ h).bind fun w h => cmpop op v w h
  | .cmp2 op op' a b d, σ, h => (xE c a σ h).bind fun v h => (xE c b σ h).bind fun w h => (cmpop op v w h).bind fun r h => (match r with
    | .bl true => (xE c d σ h).bind fun u h => cmpop op' w u h
    | .bl false => .ok (.bl false) h
    | _ => .bad)
  | .and a b, σ, h => (xE c a σ h).bind fun v h => (match v with
    | .bl true => xE c b σ h
    | .bl false => .ok (.bl false) h
    | _ => .bad)
  | .or a b, σ, h => (xE c a σ h).bind fun v h => (match v with
    | .bl true => .ok (.bl true) h
    | .bl false => xE c b σ h
    | _ => .bad)
  | .not a, σ, h => (xE c a σ h).bind fun v h => (match truth v h with
    | some b => .ok (.bl (!b)) h
    | none => .bad)
  | .ite t a b, σ, h => (xE c t σ h).bind fun v h => (match truth v h with
    | some true => xE c a σ h
    | some false => xE c b σ h
    | none => .bad)
  | .idx a i, σ, h => (xE c a σ h).bind fun v h => (xE c i σ h).bind fun w h => getIx v w h
  | .sli a lo hi, σ, h => (xE c a σ h).bind fun v h => (xO c lo σ h).bind fun l h => (xO c hi σ h).bind fun u h => slice v l u h
  | .fld a x, σ, h => (xE c a σ h).bind fun v h => getF v x h
  | .excF i x, σ, h => (match σ[i]? with
    | some (some (.exn k vs)) => (match c.P.cls[k]? with
      | some d => (match (d.xf.zip vs).lookup x with
        | some w => .ok w h
        | none => .bad)
      | none => .bad)
    | _ => .bad)
  | .excIs i ts _, σ, h => (match σ[i]? with
    | some (some (.exn k vs)) => (match isTys c.P h (.exn k vs) ts with
      | some b => .ok (.bl b) h
      | none => .bad)
    | _ => .bad)
  | .call f es, σ, h => (xEs c es σ h).bind fun vs h => c.call f vs h
  | .make k es, σ, h => (xEs c es σ h).bind fun vs h => (match c.P.meth k "__init__" with
    | some f => (c.call f (.ref h.length :: vs) (h ++ [.ins k []])).bind fun v h' => (match v with
      | .non => .ok (.ref h.length) h'
      | _ => .bad)
    | none => .bad)
  | .meth a m es, σ, h => (xE c a σ h).bind fun v h => (match v with
    | .ref n => (match h[n]? with
      | some (.ins k fs) => (match fs.lookup m, c.P.meth k m with
        | none, some f => (xEs c es σ h).bind fun vs h => c.call f (.ref n :: vs) h
        | _, _ => .bad)
      | _ => .bad)
    | _ => .bad)
  | .cmeth k m es, σ, h => (match c.P.meth k m with
    | some f => (xEs c es σ h).bind fun vs h => c.call f vs h
    | none => .bad)
  | .bf b es, σ, h => (xEs c es σ h).bind fun vs h => bfn b vs h
  | .bm b a es, σ, h => (xE c a σ h).bind fun v h => (match kindB h v with
    | some k => if bmFit b k = true then (xEs c es σ h).bind fun vs h => if kindB h v = some k then bmeth b v vs h else .bad else .bad
    | none => .bad)
  | .isi a ts _, σ, h => (xE c a σ h).bind fun v h => (match isTys c.P h v ts with
    | some b => .ok (.bl b) h
    | none => .bad)
  | .lc elt own t it cond, σ, h => (xI c it σ h).bind fun vg h => (match lcF vg.2 h.length (fun v h => (match setT t v (wipeM σ own) with
      | some σ' => (match cond with
        | .none => (xE c elt σ' h).bind fun y h => .ok (some y) h
        | .some e => (xE c e σ' h).bind fun b h => (match truth b h with
          | some true => (xE c elt σ' h).bind fun y h => .ok (some y) h
          | some false => .ok none h
          | none => .bad))
      | none => .bad)) vg.1 (h ++ [.lst []]) with
    | .ok v h => (match vg.2.off h with
      | some h' => .ok v h'
      | none => .bad)
    | _ => .bad)
  | .never, _, _ => .bad
noncomputable def xEs (c : Cfg) : MEs → MEnv → MH → R (List MV)
  | .nil, _, h => .ok [] h
  | .cons e r, σ, h => (xE c e σ h).bind fun v h => (xEs c r σ h).bind fun vs h => .ok (v :: vs) h
noncomputable def xO (c : Cfg) : MO2 → MEnv → MH → R (Option Int)
  | .none, _, h => .ok none h
  | .some e, σ, h => (xE c e σ h).bind fun v h => (match v with
    | .int i => .ok (some i) h
    | _ => .bad)
noncomputable def xI (c : Cfg) : MI → MEnv → MH → R (List MV × Gd)
  | .seq e, σ, h => (xE c e σ h).bind fun v h => (match v with
    | .tup vs => .ok (vs, .free) h
    | .rol vs => .ok (vs, .free) h
    | .ref n => (match h[n]? with
      | some (.lst vs) => .ok (vs, .obj n (.lst vs)) h
      | _ => .bad)
    | _ => .bad)
  | .rng es, σ, h => (xEs c es σ h).bind fun vs h => (match rngOf vs with
    | some xs => .ok (xs, .free) h
    | none => .bad)
  | .rev e, σ, h => (xE c e σ h).bind fun v h => (match v with
    | .ref n => (match h[n]? with
      | some (.lst vs) => .ok (vs.reverse, .obj n (.lst vs)) h
      | _ => .bad)
    | _ => .bad)
  | .items e, σ, h => (xE c e σ h).bind fun v h => (match v with
    | .ref n => (match h[n]? with
      | some (.dic false kvs) => .ok (kvs.map fun p => .tup [p.1, p.2], .lock n) (h.set n (.dic true kvs))
      | _ => .bad)
    | _ => .bad)
  | .vals e, σ, h => (xE c e σ h).bind fun v h => (match v with
    | .ref n => (match h[n]? with
      | some (.dic false kvs) => .ok (kvs.map (·.2), .lock n) (h.set n (.dic true kvs))
      | _ => .bad)
    | _ => .bad)
  | .keys e, σ, h => (xE c e σ h).bind fun v h => (match v with
    | .ref n => (match h[n]? with
      | some (.dic false kvs) => .ok (kvs.map (·.1), .lock n) (h.set n (.dic true kvs))
      | _ => .bad)
    | _ => .bad)
end
/-- a test -/
noncomputable def xT (c : Cfg) (e : ME) (σ : MEnv) (h : MH) : R Bool := (xE c e σ h).bind fun v h => (match truth v h with
  | some b => .ok b h
  | none => .bad)
mutual
noncomputable def xS (c : Cfg) : MS → MEnv → MH → Out
  | .expr e, σ, h => (xE c e σ h).out σ fun _ h => .nx σ h
  | .asg t e, σ, h => (xE c e σ h).out σ fun v h => (match setT t v σ with
    | some σ' => .nx σ' h
    | none => .bad)
  | .setF o f e, σ, h => (xE c e σ h).out σ fun w h => (xE c o σ h).out σ fun v h => (match setFd v f w h with
    | some h' => .nx σ h'
    | none => .bad)
  | .setI o i e, σ, h => (xE c e σ h).out σ fun w h => (xE c o σ h).out σ fun v h => (xE c i σ h).out σ fun k h => (match setIx v k w h with
    | some h' => .nx σ h'
    | none => .bad)
  | .ret e, σ, h => (xE c e σ h).out σ fun v h => .rt v h
  | .retN, _, h => .rt .non h
  | .pass, σ, h => .nx σ h
  | .brk, σ, h => .bk σ h
  | .cont, σ, h => .ct σ h
  | .ite t a b, σ, h => (xT c t σ h).out σ fun k h => if k = true then xB c a σ h else xB c b σ h
  | .loop t it body, σ, h => (xI c it σ h).out σ fun vg h => vg.2.offO (loopF vg.2 (fun v σ h => (match setT t v σ with
      | some σ' => xB c body σ' h
      | none => .bad)) vg.1 σ h)
  | .wh t body, σ, h => whF (xT c t) (xB c body) σ h
  | .raise k es, σ, h => (xEs c es σ h).out σ fun vs h => (match c.P.cls[k]? with
    | some d => if d.xf.isEmpty = true then .ex ⟨k, []⟩ σ h else if vs.length = d.xf.length then .ex ⟨k, vs⟩ σ h else .bad
    | none => .bad)
  | .tr body k slot suite, σ, h => (match xB c body σ h with
    | .ex x σ' h' => if c.P.isSub x.c k = true then (match slot with
        | some i => (match xB c suite (σ'.set i (some (.exn x.c x.vs))) h' with
          | .nx σ2 h2 => .nx (σ2.set i none) h2
          | .bk σ2 h2 => .bk (σ2.set i none) h2
          | .ct σ2 h2 => .ct (σ2.set i none) h2
          | .rt v h2 => .rt v h2
          | _ => .bad)
        | none => (match xB c suite σ' h' with
          | .ex _ _ _ => .bad
          | o => o)) else .ex x σ' h'
    | o => o)
  | .never, _, _ => .bad
noncomputable def xB (c : Cfg) : MSs → MEnv → MH → Out
  | .nil, σ, h => .nx σ h
  | .cons s r, σ, h => (match xS c s σ h with
    | .nx σ' h' => xB c r σ' h'
    | o => o)
end
/-- the end of a def's body -/
def Out.fin (o : Out) : R MV := match o with
  | .nx _ h' => .ok .non h'
  | .rt v h' => .ok v h'
  | .ex x _ h' => .exc x h'
  | _ => .bad
/-- the arguments with the defaults of those that lack -/
def FnD.fill (d : FnD) (vs : List MV) : List MV := vs ++ d.dfl.drop (d.dfl.length + vs.length - d.np)
/-- the slots at a def's entry -/
def FnD.start (d : FnD) (ws : List MV) : MEnv := ws.map some ++ List.replicate (d.ns - d.np) none
/-- a call of the f-th def, so many levels deep -/
noncomputable def callN (P : Prog) : Nat → Nat → List MV → MH → R MV
  | 0, _, _, _ => .bad
  | k + 1, f, vs, h => (match P.fns[f]? with
    | some d => if (d.fill vs).length = d.np then (xB ⟨P, callN P k⟩ d.body (d.start (d.fill vs)) h).fin else .bad
    | none => .bad)
/-- what runs within a def at level k -/
noncomputable abbrev cfg (P : Prog) (k : Nat) : Cfg := ⟨P, callN P k⟩
end Mi
/-! MS1: how mini values and heaps lie over the layer's. -/
namespace Mi
open PySem PySem.Spec PyProof.Rows L2

/-- a law's text by names: its defs and classes, the attributes that it stores -/
structure Tab where
  P : Prog
  fnm : List (Str × Nat)
  cnm : List (Str × Nat)
  flds : List Str
  blts : List Str
/-- the surroundings of a whole law: the layer's, and where defs and classes stand -/
structure Glb where
  prog : Program
  w : World
  K : PySem.W.Frag
  mg : Str → Option Value
  base : Heap
  T : Tab
  fa : Nat → Addr
  fd : Nat → FuncData
  ps : Nat → List Str
  ca : Nat → Addr
abbrev Glb.P (G : Glb) : Prog := G.T.P
/-- the exception that an except suite handles: its name's slot, where it stands, class and fields -/
abbrev Xc := Option (Nat × Addr × Nat × List MV)

/-- a list that stays as it is -/
def SqP (K : PySem.W.Frag) (H : Hp) (a : Addr) (xs : List V) : Prop :=
  (∃ o, H a = some (.frz o (.lst xs))) ∨
    ∃ (o : Obj) (its : Array Value) (n : Nat), K.lookup a = some o ∧ o.cls = .type "list" ∧ o.dict = none ∧ o.data = .seq its n ∧ its.size ≤ sizeLine ∧ Vals xs its.toList
theorem SqP.sq {K : PySem.W.Frag} {H : Hp} {a : Addr} {xs : List V} (h : SqP K H a xs) : SqL K H a xs := by
  rcases h with ⟨o, h⟩ | h
  · exact .inl (.inr ⟨o, h⟩)
  · exact .inr h

mutual
inductive VR (G : Glb) (j : List Addr) (H : Hp) : MV → V → Prop
  | non : VR G j H .non .non
  | bl (b : Bool) : VR G j H (.bl b) (.bl b)
  | int (i : Int) : VR G j H (.int i) (.int i)
  | str (x : Str) : VR G j H (.str x) (.str x)
  | tup {vs : List MV} {a : Addr} {xs : List V} : SqT G.K H a xs → VRs G j H vs xs → VR G j H (.tup vs) (.ref a)
  | rol {vs : List MV} {a : Addr} {xs : List V} : SqP G.K H a xs → VRs G j H vs xs → VR G j H (.rol vs) (.ref a)
  | ref {n : Nat} {a : Addr} : j[n]? = some a → VR G j H (.ref n) (.ref a)
inductive VRs (G : Glb) (j : List Addr) (H : Hp) : List MV → List V → Prop
  | nil : VRs G j H [] []
  | cons {m : MV} {v : V} {ms : List MV} {vs : List V} : VR G j H m v → VRs G j H ms vs → VRs G j H (m :: ms) (v :: vs)
end
/-- later: more objects, what can't change as it was -/
structure Fut (j : List Addr) (H : Hp) (j' : List Addr) (H' : Hp) : Prop where
  pre : ∃ t, j' = j ++ t
  tup : ∀ a xs, H a = some (.tup xs) → H' a = some (.tup xs)
  frz : ∀ a o u, H a = some (.frz o u) → H' a = some (.frz o u)
theorem Fut.refl (j : List Addr) (H : Hp) : Fut j H j H := ⟨⟨[], by simp⟩, fun _ _ h => h, fun _ _ _ h => h⟩
theorem Fut.trans {j j1 j2 : List Addr} {H H1 H2 : Hp} (a : Fut j H j1 H1) (b : Fut j1 H1 j2 H2) : Fut j H j2 H2 := by
  obtain ⟨⟨t, rfl⟩, a2, a3⟩ := a
  obtain ⟨⟨u, rfl⟩, b2, b3⟩ := b
  exact ⟨⟨t ++ u, by simp⟩, fun x y h => b2 _ _ (a2 _ _ h), fun x y z h => b3 _ _ _ (a3 _ _ _ h)⟩
theorem Fut.get {j j' : List Addr} {H H' : Hp} (f : Fut j H j' H') {n : Nat} {a : Addr} (h : j[n]? = some a) : j'[n]? = some a := by
  obtain ⟨⟨t, rfl⟩, _, _⟩ := f
  have hl : n < j.length := (List.getElem?_eq_some_iff.mp h).1
  rw [List.getElem?_append_left hl]
  exact h
theorem Fut.rd {j j' : List Addr} {H H' : Hp} (f : Fut j H j' H') {a : Addr} {xs : List V} (h : Rd H a (.tup xs)) : Rd H' a (.tup xs) := by
  rcases h with h | ⟨o, h⟩
  · exact .inl (f.tup _ _ h)
  · exact .inr ⟨o, f.frz _ _ _ h⟩
theorem Fut.sqT {K : PySem.W.Frag} {j j' : List Addr} {H H' : Hp} (f : Fut j H j' H') {a : Addr} {xs : List V} (h : SqT K H a xs) : SqT K H' a xs := by
  rcases h with h | h
  · exact .inl (f.rd h)
  · exact .inr h
theorem Fut.sqP {K : PySem.W.Frag} {j j' : List Addr} {H H' : Hp} (f : Fut j H j' H') {a : Addr} {xs : List V} (h : SqP K H a xs) : SqP K H' a xs := by
  rcases h with ⟨o, h⟩ | h
  · exact .inl ⟨o, f.frz _ _ _ h⟩
  · exact .inr h
section
variable {G : Glb} {j j' : List Addr} {H H' : Hp}
mutual
theorem VR.mono (f : Fut j H j' H') : ∀ {m : MV} {v : V}, VR G j H m v → VR G j' H' m v
  | _, _, .non => .non
  | _, _, .bl b => .bl b
  | _, _, .int i => .int i
  | _, _, .str x => .str x
  | _, _, .tup h r => .tup (f.sqT h) (VRs.mono f r)
  | _, _, .rol h r => .rol (f.sqP h) (VRs.mono f r)
  | _, _, .ref h => .ref (f.get h)
theorem VRs.mono (f : Fut j H j' H') : ∀ {m : List MV} {v : List V}, VRs G j H m v → VRs G j' H' m v
  | _, _, .nil => .nil
  | _, _, .cons h r => .cons (VR.mono f h) (VRs.mono f r)
end
theorem VRs.length {ms : List MV} {vs : List V} (h : VRs G j H ms vs) : ms.length = vs.length := by
  induction ms generalizing vs with
  | nil => cases h; rfl
  | cons m ms ih => cases h with
    | cons a b => simp [ih b]
theorem VRs.get {ms : List MV} {vs : List V} (h : VRs G j H ms vs) {i : Nat} {m : MV} (e : ms[i]? = some m) : ∃ v, vs[i]? = some v ∧ VR G j H m v := by
  induction ms generalizing vs i with
  | nil => simp at e
  | cons a ms ih => cases h with
    | cons p q =>
      cases i with
      | zero => simp at e; subst e; exact ⟨_, rfl, p⟩
      | succ i => simpa using ih q (by simpa using e)
theorem VRs.getV {ms : List MV} {vs : List V} (h : VRs G j H ms vs) {i : Nat} {v : V} (e : vs[i]? = some v) : ∃ m, ms[i]? = some m ∧ VR G j H m v := by
  induction ms generalizing vs i with
  | nil => cases h; simp at e
  | cons a ms ih => cases h with
    | cons p q =>
      cases i with
      | zero => simp at e; subst e; exact ⟨_, rfl, p⟩
      | succ i => simpa using ih q (by simpa using e)
theorem VRs.append {ms ms' : List MV} {vs vs' : List V} (h : VRs G j H ms vs) (h' : VRs G j H ms' vs') : VRs G j H (ms ++ ms') (vs ++ vs') := by
  induction ms generalizing vs with
  | nil => cases h; exact h'
  | cons a ms ih => cases h with
    | cons p q => exact .cons p (ih q)
theorem VRs.snoc {ms : List MV} {vs : List V} {m : MV} {v : V} (h : VRs G j H ms vs) (h' : VR G j H m v) : VRs G j H (ms ++ [m]) (vs ++ [v]) := h.append (.cons h' .nil)
theorem VRs.take {ms : List MV} {vs : List V} (h : VRs G j H ms vs) (n : Nat) : VRs G j H (ms.take n) (vs.take n) := by
  induction n generalizing ms vs with
  | zero => exact .nil
  | succ n ih => cases h with
    | nil => exact .nil
    | cons p q => exact .cons p (ih q)
theorem VRs.drop {ms : List MV} {vs : List V} (h : VRs G j H ms vs) (n : Nat) : VRs G j H (ms.drop n) (vs.drop n) := by
  induction n generalizing ms vs with
  | zero => exact h
  | succ n ih => cases h with
    | nil => exact .nil
    | cons p q => exact ih q
theorem VRs.set {ms : List MV} {vs : List V} (h : VRs G j H ms vs) {m : MV} {v : V} (r : VR G j H m v) (i : Nat) : VRs G j H (ms.set i m) (vs.set i v) := by
  induction ms generalizing vs i with
  | nil => cases h; exact .nil
  | cons a ms ih => cases h with
    | cons p q =>
      cases i with
      | zero => exact .cons r q
      | succ i => exact .cons p (ih q i)
theorem VRs.eraseIdx {ms : List MV} {vs : List V} (h : VRs G j H ms vs) (i : Nat) : VRs G j H (ms.eraseIdx i) (vs.eraseIdx i) := by
  induction ms generalizing vs i with
  | nil => cases h; exact .nil
  | cons a ms ih => cases h with
    | cons p q =>
      cases i with
      | zero => exact q
      | succ i => exact .cons p (ih q i)
theorem VRs.reverse {ms : List MV} {vs : List V} (h : VRs G j H ms vs) : VRs G j H ms.reverse vs.reverse := by
  induction ms generalizing vs with
  | nil => cases h; exact .nil
  | cons a ms ih => cases h with
    | cons p q => rw [List.reverse_cons, List.reverse_cons]; exact (ih q).snoc p
theorem VRs.rep {ms : List MV} {vs : List V} (h : VRs G j H ms vs) : ∀ k : Nat, VRs G j H (List.replicate k ms).flatten (List.replicate k vs).flatten
  | 0 => .nil
  | k + 1 => by
    rw [List.replicate_succ, List.replicate_succ, List.flatten_cons, List.flatten_cons]
    exact h.append (VRs.rep h k)
theorem VRs.isEmpty {ms : List MV} {vs : List V} (h : VRs G j H ms vs) : ms.isEmpty = vs.isEmpty := by cases h <;> rfl
end

/-! ### dicts -/
def keyMV : Key → MV
  | .inl i => .int i
  | .inr x => .str x
mutual
/-- a tuple as a nested key -/
def nkey : MV → Option NestedKey
  | .non => some .none
  | .int i => some (.num i)
  | .str x => some (.text x)
  | .tup vs => (nkeys vs).map .tup
  | _ => none
def nkeys : List MV → Option (List NestedKey)
  | [] => some []
  | v :: vs => (nkey v).bind fun k => (nkeys vs).map fun ks => k :: ks
end
section
variable (G : Glb) (j : List Addr) (H : Hp)
/-- the raw table of a dict whose keys are tuples -/
def rawN (a : Addr) (xs : List (NestedKey × Addr × Value)) : HO := .ext fun h => xs.length ≤ sizeLine ∧ (a == sysModules) = false ∧
  ∃ o es ep, h.get? a = some o ∧ o.ExactDict ∧ o.data = .dict es ep ∧ es.toList = xs.map (entryOfKey (nestedKind G.prog G.w)) ∧ (xs.map (·.1)).Nodup
def KRow (p : MV × MV) (q : Key × V) : Prop := p.1 = keyMV q.1 ∧ VR G j H p.2 q.2
def NRow (p : MV × MV) (q : NestedKey × Addr × Value) : Prop := nkey p.1 = some q.1 ∧ q.1.depth ≤ 8 ∧ (∃ vs, p.1 = .tup vs) ∧ VR G j H p.1 (.ref q.2.1) ∧ ∃ v, RelV v q.2.2 ∧ VR G j H p.2 v
/-- what stands where a dict of these pairs is -/
def DR (a : Addr) (kvs : List (MV × MV)) (u : HO) : Prop :=
  (∃ kvs', u = .dK kvs' ∧ Paired (KRow G j H) kvs kvs') ∨ (∃ xs, u = rawN G a xs ∧ Paired (NRow G j H) kvs xs)
/-- an instance's attributes -/
def FRow (p : Str × MV) (q : Str × V) : Prop := p.1 = q.1 ∧ VR G j H p.2 q.2
def Own (c : Nat) : Prop := ∃ d : ClD, G.P.cls[c]? = some d ∧ d.exc = false
def OR (a : Addr) : MO → Prop
  | .lst vs => ∃ xs, H a = some (.lst xs) ∧ VRs G j H vs xs
  | .dic false kvs => ∃ u, H a = some u ∧ DR G j H a kvs u
  | .dic true kvs => ∃ od u, H a = some (.frz od u) ∧ DR G j H a kvs u
  | .ins c fs => ∃ dx fs', H a = some (.ins (G.ca c) dx fs') ∧ Paired (FRow G j H) fs fs' ∧ Own G c
/-- the mini heap over the layer's -/
structure RH (hm : MH) : Prop where
  len : j.length = hm.length
  nd : j.Nodup
  ob : ∀ (n : Nat) (o : MO) (a : Addr), hm[n]? = some o → j[n]? = some a → OR G j H a o
/-- an exception in flight -/
def XR (x : MX) (cls : Value) (d : Option Addr) : Prop := cls = .ref (G.ca x.c) ∧ ((x.vs = [] ∧ d = none) ∨ (x.vs ≠ [] ∧ ∃ p cd fs', d = some p ∧ G.P.cls[x.c]? = some cd ∧ cd.xf.length = x.vs.length ∧ H p = some (.xd fs') ∧ Paired (FRow G j H) (cd.xf.zip x.vs) fs'))
/-- the slots -/
structure RE (xc : Xc) (ρ : MEnv) (σ : L2.St) : Prop where
  len : ρ.length = σ.length
  at_ : ∀ (i : Nat) (m : MV), ρ[i]? = some (some m) → (∃ v, σ[i]? = some (some v) ∧ VR G j H m v) ∨ ∃ a c vs, xc = some (i, a, c, vs) ∧ m = .exn c vs ∧ σ[i]? = some (some (.ref a))
end
section
variable {G : Glb} {j j' : List Addr} {H H' : Hp}
theorem KRow.mono (f : Fut j H j' H') {p : MV × MV} {q : Key × V} (h : KRow G j H p q) : KRow G j' H' p q := ⟨h.1, h.2.mono f⟩
theorem NRow.mono (f : Fut j H j' H') {p : MV × MV} {q : NestedKey × Addr × Value} (h : NRow G j H p q) : NRow G j' H' p q :=
  let ⟨h1, h2, h2', h3, v, h4, h5⟩ := h
  ⟨h1, h2, h2', h3.mono f, v, h4, h5.mono f⟩
theorem FRow.mono (f : Fut j H j' H') {p : Str × MV} {q : Str × V} (h : FRow G j H p q) : FRow G j' H' p q := ⟨h.1, h.2.mono f⟩
theorem DR.mono (f : Fut j H j' H') {a : Addr} {kvs : List (MV × MV)} {u : HO} (h : DR G j H a kvs u) : DR G j' H' a kvs u := by
  rcases h with ⟨k, e, r⟩ | ⟨x, e, r⟩
  · exact .inl ⟨k, e, Paired.mapP r fun _ _ z => z.mono f⟩
  · exact .inr ⟨x, e, Paired.mapP r fun _ _ z => z.mono f⟩
theorem RE.mono (f : Fut j H j' H') {xc : Xc} {ρ : MEnv} {σ : L2.St} (h : RE G j H xc ρ σ) : RE G j' H' xc ρ σ :=
  ⟨h.len, fun i m e => by
    rcases h.at_ i m e with ⟨v, h1, h2⟩ | h1
    · exact .inl ⟨v, h1, h2.mono f⟩
    · exact .inr h1⟩
/-- an object's row, at a heap that holds the same there -/
theorem OR.mono (f : Fut j H j' H') {a : Addr} {o : MO} (h : OR G j H a o) (e : ∀ u, H a = some u → H' a = some u) : OR G j' H' a o := by
  cases o with
  | lst vs =>
    obtain ⟨xs, h1, h2⟩ := h
    exact ⟨xs, e _ h1, h2.mono f⟩
  | dic lk kvs =>
    cases lk with
    | false =>
      obtain ⟨u, h1, h2⟩ := h
      exact ⟨u, e _ h1, h2.mono f⟩
    | true =>
      obtain ⟨od, u, h1, h2⟩ := h
      exact ⟨od, u, e _ h1, h2.mono f⟩
  | ins c fs =>
    obtain ⟨dx, fs', h1, h2⟩ := h
    exact ⟨dx, fs', e _ h1, Paired.mapP h2.1 (fun _ _ z => z.mono f), h2.2⟩
theorem OR.some {a : Addr} {o : MO} (h : OR G j H a o) : ∃ u, H a = some u := by
  cases o with
  | lst vs => obtain ⟨xs, h1, _⟩ := h; exact ⟨_, h1⟩
  | dic lk kvs =>
    cases lk with
    | false => obtain ⟨u, h1, _⟩ := h; exact ⟨_, h1⟩
    | true => obtain ⟨od, u, h1, _⟩ := h; exact ⟨_, h1⟩
  | ins c fs => obtain ⟨dx, fs', h1, _⟩ := h; exact ⟨_, h1⟩
theorem RH.at_ {hm : MH} (r : RH G j H hm) {n : Nat} {o : MO} (h : hm[n]? = some o) : ∃ a, j[n]? = some a ∧ OR G j H a o := by
  have hl : n < hm.length := (List.getElem?_eq_some_iff.mp h).1
  have hj : n < j.length := by rw [r.len]; exact hl
  exact ⟨j[n], List.getElem?_eq_getElem hj, r.ob n o _ h (List.getElem?_eq_getElem hj)⟩
theorem RH.of {hm : MH} (r : RH G j H hm) {n : Nat} {a : Addr} (h : j[n]? = some a) : ∃ o, hm[n]? = some o ∧ OR G j H a o := by
  have hj : n < j.length := (List.getElem?_eq_some_iff.mp h).1
  have hl : n < hm.length := by rw [← r.len]; exact hj
  exact ⟨hm[n], List.getElem?_eq_getElem hl, r.ob n _ a (List.getElem?_eq_getElem hl) h⟩
theorem nodup_get {l : List Addr} (nd : l.Nodup) {i k : Nat} {a : Addr} (h1 : l[i]? = some a) (h2 : l[k]? = some a) : i = k := by
  exact List.getElem?_inj (List.getElem?_eq_some_iff.mp h1).1 nd |>.mp (h1.trans h2.symm)
/-- a new object is tracked that the mini heap knows nothing of -/
theorem fut_new {p : Addr} {u : HO} (hn : H p = none) : Fut j H j (upd H p u) :=
  ⟨⟨[], by simp⟩, fun a xs h => by rw [upd_ne (ne_of_none h hn)]; exact h, fun a o u h => by rw [upd_ne (ne_of_none h hn)]; exact h⟩
theorem RH.keep {hm : MH} (r : RH G j H hm) {p : Addr} {u : HO} (hn : H p = none) : RH G j (upd H p u) hm :=
  ⟨r.len, r.nd, fun n o a h1 h2 => (r.ob n o a h1 h2).mono (fut_new hn) fun u h => by rw [upd_ne (ne_of_none h hn)]; exact h⟩
/-- .. that the mini heap knows -/
theorem fut_alloc {p : Addr} {u : HO} (hn : H p = none) : Fut j H (j ++ [p]) (upd H p u) :=
  ⟨⟨[p], rfl⟩, fun a xs h => by rw [upd_ne (ne_of_none h hn)]; exact h, fun a o u h => by rw [upd_ne (ne_of_none h hn)]; exact h⟩
theorem RH.alloc {hm : MH} (r : RH G j H hm) {p : Addr} {u : HO} {o : MO} (hn : H p = none) (ho : OR G (j ++ [p]) (upd H p u) p o) : RH G (j ++ [p]) (upd H p u) (hm ++ [o]) := by
  refine ⟨by simp [r.len], ?_, fun n o' a h1 h2 => ?_⟩
  · rw [List.nodup_append]
    refine ⟨r.nd, by simp, fun a ha b hb e => ?_⟩
    have eb : b = p := by simpa using hb
    subst eb
    subst e
    obtain ⟨i, hi, e⟩ := List.getElem_of_mem ha
    obtain ⟨o', _, oo⟩ := r.of (List.getElem?_eq_some_iff.mpr ⟨hi, e⟩)
    obtain ⟨u', hu⟩ := oo.some
    rw [hn] at hu
    cases hu
  · by_cases hl : n < hm.length
    · rw [List.getElem?_append_left hl] at h1
      rw [List.getElem?_append_left (by rw [r.len]; exact hl)] at h2
      exact (r.ob n o' a h1 h2).mono (fut_alloc hn) fun u' h => by rw [upd_ne (ne_of_none h hn)]; exact h
    · have e : n = hm.length := by
        have := (List.getElem?_eq_some_iff.mp h1).1
        simp at this
        omega
      subst e
      rw [List.getElem?_append_right (Nat.le_refl _)] at h1
      rw [← r.len, List.getElem?_append_right (Nat.le_refl _)] at h2
      simp at h1 h2
      subst h1 h2
      exact ho
/-- an object changes -/
theorem fut_set {a : Addr} {u v : HO} (hu : H a = some v) (ht : ∀ xs, v ≠ .tup xs) (hf : ∀ o w, v ≠ .frz o w) : Fut j H j (upd H a u) :=
  ⟨⟨[], by simp⟩, fun b xs h => by
      have : b ≠ a := fun e => by subst e; rw [hu] at h; exact ht _ (Option.some.inj h)
      rw [upd_ne this]; exact h, fun b o w h => by
      have : b ≠ a := fun e => by subst e; rw [hu] at h; exact hf _ _ (Option.some.inj h)
      rw [upd_ne this]; exact h⟩
theorem RH.set {hm : MH} (r : RH G j H hm) {n : Nat} {a : Addr} {u : HO} {o : MO} (hj : j[n]? = some a) (f : Fut j H j (upd H a u)) (ho : OR G j (upd H a u) a o) : RH G j (upd H a u) (hm.set n o) := by
  refine ⟨by simp [r.len], r.nd, fun k o' b h1 h2 => ?_⟩
  by_cases e : n = k
  · subst e
    rw [hj] at h2
    cases h2
    have hl : n < hm.length := by
      have := (List.getElem?_eq_some_iff.mp h1).1
      simpa using this
    rw [List.getElem?_set_self hl] at h1
    cases h1
    exact ho
  · rw [List.getElem?_set_ne e] at h1
    have ne : b ≠ a := fun z => by
      subst z
      exact e (nodup_get r.nd hj h2)
    exact (r.ob k o' b h1 h2).mono f fun w h => by rw [upd_ne ne]; exact h
theorem XR.mono (f : Fut j H j' H') {x : MX} {cls : Value} {d : Option Addr} (h : XR G j H x cls d) (e : ∀ p fs, d = some p → H p = some (.xd fs) → H' p = some (.xd fs)) : XR G j' H' x cls d := by
  obtain ⟨h1, h2⟩ := h
  refine ⟨h1, ?_⟩
  rcases h2 with h2 | ⟨h2, p, cd, fs', h3, h4, h5, h6, h7⟩
  · exact .inl h2
  · exact .inr ⟨h2, p, cd, fs', h3, h4, h5, e _ _ h3 h6, Paired.mapP h7 fun _ _ z => z.mono f⟩
end
end Mi
/-! MS2: readings by the mini meaning; operations. -/
namespace Mi
open PySem PySem.Spec PyProof.Rows L2

/-- what a mini end asks of the layer -/
def Post {α β : Type} (G : Glb) (Rel : List Addr → Hp → α → β → Prop) (j : List Addr) (H : Hp) (W : Value → Option Addr → Hp → Prop) (r : R α) (Q : β → Hp → Prop) : Prop := match r with
  | .ok a hm => ∀ j' H' b, Fut j H j' H' → RH G j' H' hm → Rel j' H' a b → Q b H'
  | .exc x hm => ∀ j' H' cls d, Fut j H j' H' → RH G j' H' hm → XR G j' H' x cls d → W cls d H'
  | .bad => False
section
variable {α β γ δ : Type} {G : Glb} {Rel : List Addr → Hp → α → β → Prop} {Rel' : List Addr → Hp → γ → δ → Prop} {j j' : List Addr} {H H' : Hp} {W : Value → Option Addr → Hp → Prop}
theorem Post.fut {r : R α} {Q : β → Hp → Prop} (h : Post G Rel j H W r Q) (f : Fut j H j' H') : Post G Rel j' H' W r Q := by
  cases r with
  | ok a hm => exact fun j2 H2 b f2 => h j2 H2 b (f.trans f2)
  | exc x hm => exact fun j2 H2 c d f2 => h j2 H2 c d (f.trans f2)
  | bad => exact h
theorem Post.mono {r : R α} {Q Q' : β → Hp → Prop} (h : Post G Rel j H W r Q) (q : ∀ b H, Q b H → Q' b H) : Post G Rel j H W r Q' := by
  cases r with
  | ok a hm => exact fun j2 H2 b f2 r2 l => q _ _ (h j2 H2 b f2 r2 l)
  | exc x hm => exact h
  | bad => exact h
theorem Post.bind {r : R α} {f : α → MH → R γ} {Q : δ → Hp → Prop} (h : Post G Rel' j H W (r.bind f) Q) :
    Post G Rel j H W r (fun b H1 => ∃ j1 hm a, Fut j H j1 H1 ∧ RH G j1 H1 hm ∧ Rel j1 H1 a b ∧ Post G Rel' j1 H1 W (f a hm) Q) := by
  cases r with
  | ok a hm => exact fun j1 H1 b f1 r1 l => ⟨j1, hm, a, f1, r1, l, Post.fut (show Post G Rel' j H W (f a hm) Q from h) f1⟩
  | exc x hm => exact h
  | bad => exact h
theorem Post.ok {a : α} {hm : MH} {b : β} {Q : β → Hp → Prop} (h : Post G Rel j H W (.ok a hm) Q) (r : RH G j H hm) (l : Rel j H a b) : Q b H := h j H b (Fut.refl _ _) r l
/-- a new object that the mini heap knows -/
theorem Post.new {a : α} {hm : MH} {o : MO} {u : HO} {p : Addr} {b : β} {Q : β → Hp → Prop} (h : Post G Rel j H W (.ok a (hm ++ [o])) Q) (r : RH G j H hm) (hn : H p = none) (ho : OR G (j ++ [p]) (upd H p u) p o)
    (l : Rel (j ++ [p]) (upd H p u) a b) : Q b (upd H p u) := h _ _ b (fut_alloc hn) (r.alloc hn ho) l
/-- .. that it knows nothing of -/
theorem Post.off {a : α} {hm : MH} {u : HO} {p : Addr} {b : β} {Q : β → Hp → Prop} (h : Post G Rel j H W (.ok a hm) Q) (r : RH G j H hm) (hn : H p = none) (l : Rel j (upd H p u) a b) : Q b (upd H p u) :=
  h _ _ b (fut_new hn) (r.keep hn) l
/-- an object changed -/
theorem Post.set {a : α} {hm : MH} {o : MO} {u v : HO} {p : Addr} {n : Nat} {b : β} {Q : β → Hp → Prop} (h : Post G Rel j H W (.ok a (hm.set n o)) Q) (r : RH G j H hm) (hj : j[n]? = some p) (hu : H p = some v)
    (ht : ∀ xs, v ≠ .tup xs) (hf : ∀ o w, v ≠ .frz o w) (ho : OR G j (upd H p u) p o) (l : Rel j (upd H p u) a b) : Q b (upd H p u) := h _ _ b (fut_set hu ht hf) (r.set hj (fut_set hu ht hf) ho) l
end
abbrev PostV (G : Glb) := Post (α := MV) (β := V) G (VR G)
abbrev PostL (G : Glb) := Post (α := List MV) (β := List V) G (VRs G)
abbrev PostB (G : Glb) := Post (α := Bool) (β := Bool) G (fun _ _ a b => a = b)

/-! ### values read off -/
section
variable {G : Glb} {j : List Addr} {H : Hp}
theorem VR.int_inv {i : Int} {v : V} (h : VR G j H (.int i) v) : v = .int i := by cases h; rfl
theorem VR.bl_inv {i : Bool} {v : V} (h : VR G j H (.bl i) v) : v = .bl i := by cases h; rfl
theorem VR.str_inv {i : Str} {v : V} (h : VR G j H (.str i) v) : v = .str i := by cases h; rfl
theorem VR.non_inv {v : V} (h : VR G j H .non v) : v = .non := by cases h; rfl
theorem VR.tup_inv {vs : List MV} {v : V} (h : VR G j H (.tup vs) v) : ∃ a xs, v = .ref a ∧ SqT G.K H a xs ∧ VRs G j H vs xs := by cases h; exact ⟨_, _, rfl, ‹_›, ‹_›⟩
theorem VR.rol_inv {vs : List MV} {v : V} (h : VR G j H (.rol vs) v) : ∃ a xs, v = .ref a ∧ SqP G.K H a xs ∧ VRs G j H vs xs := by cases h; exact ⟨_, _, rfl, ‹_›, ‹_›⟩
theorem VR.ref_inv {n : Nat} {v : V} (h : VR G j H (.ref n) v) : ∃ a, v = .ref a ∧ j[n]? = some a := by cases h; exact ⟨_, rfl, ‹_›⟩
/-- the list at n -/
theorem RH.lst {hm : MH} (r : RH G j H hm) {n : Nat} {vs : List MV} {v : V} (h : hm[n]? = some (.lst vs)) (hv : VR G j H (.ref n) v) : ∃ a xs, v = .ref a ∧ j[n]? = some a ∧ H a = some (.lst xs) ∧ VRs G j H vs xs := by
  obtain ⟨a, rfl, hj⟩ := hv.ref_inv
  obtain ⟨xs, h1, h2⟩ := r.ob n _ a h hj
  exact ⟨a, xs, rfl, hj, h1, h2⟩
/-- a tuple or list by its items -/
theorem seq_of {hm : MH} (r : RH G j H hm) {m : MV} {v : V} {vs : List MV} (h : seqOf hm m = some vs) (hv : VR G j H m v) : ∃ a xs, v = .ref a ∧ (SqL G.K H a xs ∨ SqT G.K H a xs) ∧ VRs G j H vs xs := by
  cases m with
  | tup ws =>
    cases h
    obtain ⟨a, xs, e, h1, h2⟩ := hv.tup_inv
    exact ⟨a, xs, e, .inr h1, h2⟩
  | rol ws =>
    cases h
    obtain ⟨a, xs, e, h1, h2⟩ := hv.rol_inv
    exact ⟨a, xs, e, .inl h1.sq, h2⟩
  | ref n =>
    simp only [seqOf] at h
    split at h
    · rename_i ws e
      cases h
      obtain ⟨a, xs, e, _, h1, h2⟩ := r.lst e hv
      exact ⟨a, xs, e, .inl (SqL.of h1), h2⟩
    · cases h
  | _ => cases h
end

/-! ### operators -/
/-- a two-place operation's reading -/
def rTwo (G : Glb) (f : MV → MV → MH → R MV) : R2 := fun x y H Q => ∃ W j hm v w, RH G j H hm ∧ VR G j H v x ∧ VR G j H w y ∧ PostV G j H W (f v w hm) Q
/-- the layer's surroundings are these -/
structure XG (G : Glb) (X : Cx) : Prop where
  prog : X.prog = G.prog
  w : X.w = G.w
  K : X.K = G.K
  mg : X.mg = G.mg
  base : X.base = G.base
section
variable {X : Cx} {G : Glb}
theorem opI_of {f : Value → Value → Sem Value} {C : Int → Int → Prop} {g : Int → Int → V} (h : OpR X f (rI C g)) {pins : List (Addr × Obj)} {s : Shared} {σ : L2.St} {H : Hp} {i k : Int} {v u : Value} {Q : VK}
    (I : Inv X pins σ H s) (rx : RelV (.int i) v) (ry : RelV (.int k) u) (hc : C i k) (q : Q (g i k) H) : wpAny (model X.prog X.w) X.A (f v u) (EP X pins σ Q) X.xe s :=
  h pins s σ H _ _ v u Q I rx ry ⟨i, k, rfl, rfl, hc, q⟩
theorem opI0_of {f : Value → Value → Sem Value} {g : Int → Int → V} (h : OpR X f (rI0 g)) {pins : List (Addr × Obj)} {s : Shared} {σ : L2.St} {H : Hp} {i k : Int} {v u : Value} {Q : VK}
    (I : Inv X pins σ H s) (rx : RelV (.int i) v) (ry : RelV (.int k) u) (q : Q (g i k) H) : wpAny (model X.prog X.w) X.A (f v u) (EP X pins σ Q) X.xe s :=
  h pins s σ H _ _ v u Q I rx ry ⟨i, k, rfl, rfl, q⟩
theorem op_fdivG : OpR X (binaryOp .FloorDiv) (rI (fun _ j => DivOk j) fun i j => .int (i.fdiv j)) := opI fun _ _ _ _ _ _ _ hc q => floordiv_int hc.1 q (.inl (PyProof.noPylong_of_log2 hc.2))
theorem op_mulG : OpR X (binaryOp .Mult) (rI MulOk fun i j => .int (i * j)) := op_mulW

theorem bin_add (g : XG G X) : OpR X (binaryOp .Add) (rTwo G (binop .Add)) := by
  rintro pins s σ H x y v u Q I rx ry ⟨W, j, hm, m, n, R, r1, r2, P⟩
  simp only [binop] at P
  split at P
  · cases r1.int_inv; cases r2.int_inv
    exact opI0_of op_add I rx ry (P.ok R (.int _))
  · split at P
    · rename_i hz
      cases r1.str_inv; cases r2.str_inv
      exact op_add_str pins s σ H _ _ v u Q I rx ry ⟨_, _, rfl, rfl, hz, P.ok R (.str _)⟩
    · exact P.elim
  · split at P
    · rename_i hz
      obtain ⟨a, xs, rfl, h1, v1⟩ := r1.tup_inv
      obtain ⟨b, ys, rfl, h2, v2⟩ := r2.tup_inv
      refine op_catA pins s σ H _ _ v u Q I rx ry ⟨a, b, xs, ys, rfl, rfl, by rw [g.K]; exact h1, by rw [g.K]; exact h2, by rw [← v1.length, ← v2.length]; exact hz, fun e => ?_, fun _ e => ?_, fun _ _ p hp => ?_⟩
      · subst e
        cases v1
        exact P.ok R (.tup h2 v2)
      · subst e
        cases v2
        exact P.ok R (.tup h1 (by rw [List.append_nil]; exact v1))
      · exact P.off R hp (.tup (SqT.of upd_same) ((v1.append v2).mono (fut_new hp)))
    · exact P.elim
  · split at P
    · split at P
      · rename_i e1 e2 hz
        obtain ⟨a, xs, rfl, j1, h1, v1⟩ := R.lst e1 r1
        obtain ⟨b, ys, rfl, j2, h2, v2⟩ := R.lst e2 r2
        refine op_cat pins s σ H _ _ v u Q I rx ry ⟨a, b, xs, ys, rfl, rfl, h1, h2, by rw [← v1.length, ← v2.length]; exact hz, fun p hp => ?_⟩
        refine P.new R hp ⟨_, upd_same, (v1.append v2).mono (fut_alloc hp)⟩ (.ref ?_)
        rw [← R.len]
        simp
      · exact P.elim
    · exact P.elim
  · exact P.elim
theorem bin_sub (g : XG G X) : OpR X (binaryOp .Sub) (rTwo G (binop .Sub)) := by
  rintro pins s σ H x y v u Q I rx ry ⟨W, j, hm, m, n, R, r1, r2, P⟩
  simp only [binop] at P
  split at P
  · cases r1.int_inv; cases r2.int_inv
    exact opI0_of op_sub I rx ry (P.ok R (.int _))
  · exact P.elim
theorem rep_one {α : Type} (xs : List α) : (List.replicate 1 xs).flatten = xs := by simp
theorem bin_mul (g : XG G X) : OpR X (binaryOp .Mult) (rTwo G (binop .Mult)) := by
  rintro pins s σ H x y v u Q I rx ry ⟨W, j, hm, m, n, R, r1, r2, P⟩
  simp only [binop] at P
  split at P
  · split at P
    · rename_i hz
      cases r1.int_inv; cases r2.int_inv
      exact opI_of op_mulG I rx ry hz (P.ok R (.int _))
    · exact P.elim
  · split at P
    · split at P
      · rename_i e1 hz
        obtain ⟨a, xs, rfl, j1, h1, v1⟩ := R.lst e1 r1
        cases r2.int_inv
        refine op_rep pins s σ H _ _ v u Q I rx ry ⟨a, _, xs, rfl, rfl, h1, hz.1, hz.2.1, by rw [← v1.length]; exact hz.2.2, fun p hp => ?_⟩
        refine P.new R hp ⟨_, upd_same, (v1.rep _).mono (fut_alloc hp)⟩ (.ref ?_)
        rw [← R.len]
        simp
      · exact P.elim
    · exact P.elim
  · split at P
    · rename_i hz
      obtain ⟨a, xs, rfl, h1, v1⟩ := r1.tup_inv
      cases r2.int_inv
      refine op_repT pins s σ H _ _ v u Q I rx ry ⟨a, _, xs, rfl, rfl, by rw [g.K]; exact h1, ?_, hz.2.1, hz.2.2.1, by rw [← v1.length]; exact hz.2.2.2, fun p hp => ?_⟩
      · intro e
        subst e
        cases v1
        exact hz.1 rfl
      · exact P.off R hp (.tup (SqT.of upd_same) ((v1.rep _).mono (fut_new hp)))
    · exact P.elim
  · exact P.elim
theorem bin_mod (g : XG G X) : OpR X (binaryOp .Mod) (rTwo G (binop .Mod)) := by
  rintro pins s σ H x y v u Q I rx ry ⟨W, j, hm, m, n, R, r1, r2, P⟩
  simp only [binop] at P
  split at P
  · split at P
    · rename_i hz
      cases r1.int_inv; cases r2.int_inv
      exact opI_of op_modN I rx ry hz (P.ok R (.int _))
    · exact P.elim
  · exact P.elim
theorem bin_fdiv (g : XG G X) : OpR X (binaryOp .FloorDiv) (rTwo G (binop .FloorDiv)) := by
  rintro pins s σ H x y v u Q I rx ry ⟨W, j, hm, m, n, R, r1, r2, P⟩
  simp only [binop] at P
  split at P
  · split at P
    · rename_i hz
      cases r1.int_inv; cases r2.int_inv
      exact opI_of op_fdivG I rx ry hz (P.ok R (.int _))
    · exact P.elim
  · exact P.elim
theorem bin_pow (g : XG G X) : OpR X (binaryOp .Pow) (rTwo G (binop .Pow)) := by
  rintro pins s σ H x y v u Q I rx ry ⟨W, j, hm, m, n, R, r1, r2, P⟩
  simp only [binop] at P
  split at P
  · split at P
    · rename_i hz
      cases r1.int_inv; cases r2.int_inv
      exact opI_of op_pow I rx ry hz (P.ok R (.int _))
    · exact P.elim
  · exact P.elim
theorem bin_shl (g : XG G X) : OpR X (binaryOp .LShift) (rTwo G (binop .LShift)) := by
  rintro pins s σ H x y v u Q I rx ry ⟨W, j, hm, m, n, R, r1, r2, P⟩
  simp only [binop] at P
  split at P
  · split at P
    · rename_i hz
      cases r1.int_inv; cases r2.int_inv
      exact opI_of op_shl I rx ry hz (P.ok R (.int _))
    · exact P.elim
  · exact P.elim
theorem bin_shr (g : XG G X) : OpR X (binaryOp .RShift) (rTwo G (binop .RShift)) := by
  rintro pins s σ H x y v u Q I rx ry ⟨W, j, hm, m, n, R, r1, r2, P⟩
  simp only [binop] at P
  split at P
  · split at P
    · rename_i hz
      cases r1.int_inv; cases r2.int_inv
      exact opI_of op_shr I rx ry hz (P.ok R (.int _))
    · exact P.elim
  · exact P.elim
theorem bin_and (g : XG G X) : OpR X (binaryOp .BitAnd) (rTwo G (binop .BitAnd)) := by
  rintro pins s σ H x y v u Q I rx ry ⟨W, j, hm, m, n, R, r1, r2, P⟩
  simp only [binop] at P
  split at P
  · cases r1.int_inv; cases r2.int_inv
    exact opI0_of op_and I rx ry (P.ok R (.int _))
  · exact P.elim
theorem bin_or (g : XG G X) : OpR X (binaryOp .BitOr) (rTwo G (binop .BitOr)) := by
  rintro pins s σ H x y v u Q I rx ry ⟨W, j, hm, m, n, R, r1, r2, P⟩
  simp only [binop] at P
  split at P
  · cases r1.int_inv; cases r2.int_inv
    exact opI0_of op_or I rx ry (P.ok R (.int _))
  · exact P.elim
theorem bin_ok (g : XG G X) (op : Operator) : OpR X (binaryOp op) (rTwo G (binop op)) := by
  cases op with
  | Add => exact bin_add g
  | Sub => exact bin_sub g
  | Mult => exact bin_mul g
  | Mod => exact bin_mod g
  | FloorDiv => exact bin_fdiv g
  | Pow => exact bin_pow g
  | LShift => exact bin_shl g
  | RShift => exact bin_shr g
  | BitAnd => exact bin_and g
  | BitOr => exact bin_or g
  | MatMult => exact fun pins s σ H x y v u Q I rx ry ⟨W, j, hm, m, n, R, r1, r2, P⟩ => P.elim
  | Div => exact fun pins s σ H x y v u Q I rx ry ⟨W, j, hm, m, n, R, r1, r2, P⟩ => P.elim
  | BitXor => exact fun pins s σ H x y v u Q I rx ry ⟨W, j, hm, m, n, R, r1, r2, P⟩ => P.elim

/-! ### data -/
mutual
theorem toD_dp {j : List Addr} {H : Hp} {hm : MH} (R : RH G j H hm) : ∀ (k : Nat) (m : MV) (v : V) (d : PyData), toD hm k m = some d → VR G j H m v → Dp G.K H v d ∧ d.canLay0 = true ∧ d.depth ≤ k
  | 0, _, _, _, e, _ => by simp [toD] at e
  | k + 1, m, v, d, e, r => by
    cases m with
    | non => cases r; simp [toD] at e; subst e; exact ⟨.non, rfl, by simp [PyData.depth]⟩
    | bl b => cases r; simp [toD] at e; subst e; exact ⟨.bl _, rfl, by simp [PyData.depth]⟩
    | int i => cases r; simp [toD] at e; subst e; exact ⟨.int _, rfl, by simp [PyData.depth]⟩
    | str x =>
      cases r
      simp [toD] at e
      obtain ⟨e1, e⟩ := e
      subst e
      exact ⟨.str _, by simpa [PyData.canLay0] using e1, by simp [PyData.depth]⟩
    | tup vs =>
      obtain ⟨a, xs, rfl, h1, h2⟩ := r.tup_inv
      simp only [toD, Option.map_eq_some_iff] at e
      obtain ⟨ds, e1, rfl⟩ := e
      obtain ⟨p1, p2, p3⟩ := toDs_dp R k vs xs ds e1 h2
      exact ⟨.tup h1 p1, by simpa [PyData.canLay0] using p2, by simp only [PyData.depth]; omega⟩
    | rol vs => simp [toD] at e
    | ref n =>
      simp only [toD] at e
      split at e
      · rename_i vs e0
        obtain ⟨a, xs, rfl, _, h1, h2⟩ := R.lst e0 r
        simp only [Option.map_eq_some_iff] at e
        obtain ⟨ds, e1, rfl⟩ := e
        obtain ⟨p1, p2, p3⟩ := toDs_dp R k vs xs ds e1 h2
        exact ⟨.lst (SqL.of h1) p1, by simpa [PyData.canLay0] using p2, by simp only [PyData.depth]; omega⟩
      · cases e
    | exn c vs => cases r
theorem toDs_dp {j : List Addr} {H : Hp} {hm : MH} (R : RH G j H hm) : ∀ (k : Nat) (ms : List MV) (vs : List V) (ds : List PyData), ms.mapM (toD hm k) = some ds → VRs G j H ms vs → DpAll G.K H vs ds ∧ PyData.canLayAll0 ds = true ∧ PyData.depthAll ds ≤ k
  | k, [], vs, ds, e, r => by
    cases r
    simp at e
    subst e
    exact ⟨.nil, rfl, Nat.zero_le _⟩
  | k, m :: ms, vs, ds, e, r => by
    cases r with
    | cons r1 r2 =>
      rw [List.mapM_cons] at e
      cases e1 : toD hm k m with
      | none => rw [e1] at e; cases e
      | some d =>
        cases e2 : ms.mapM (toD hm k) with
        | none => rw [e1, e2] at e; cases e
        | some ds' =>
          rw [e1, e2] at e
          cases e
          obtain ⟨p1, p2, p3⟩ := toD_dp R k m _ d e1 r1
          obtain ⟨q1, q2, q3⟩ := toDs_dp R k ms _ ds' e2 r2
          exact ⟨.cons p1 q1, by simp [PyData.canLayAll0, p2, q2], by simp only [PyData.depthAll]; omega⟩
end

theorem toD_sh {j : List Addr} {H : Hp} {hm : MH} (R : RH G j H hm) {m : MV} {v : V} {d : PyData} (e : toD hm 8 m = some d) (r : VR G j H m v) : Dp G.K H v d ∧ SeqAt.shaped d = true := by
  obtain ⟨h1, h2, h3⟩ := toD_dp R 8 m v d e r
  exact ⟨h1, Bool.and_eq_true_iff.mpr ⟨h2, decide_eq_true (by omega)⟩⟩
theorem eqv_ok {j : List Addr} {H : Hp} {hm : MH} (g : XG G X) (hu : X.A.units + 64 < cLine) (R : RH G j H hm) {m n : MV} {x y : V} {b : Bool} (e : eqv hm m n = some b)
    (r1 : VR G j H m x) (r2 : VR G j H n y) {pins : List (Addr × Obj)} {s : Shared} {σ : L2.St} {v u : Value} {Q : VK} (I : Inv X pins σ H s) (rx : RelV x v) (ry : RelV y u) :
    (Q (.bl b) H → wpAny (model X.prog X.w) X.A (compareOp .Eq v u) (EP X pins σ Q) X.xe s) ∧ (Q (.bl (!b)) H → wpAny (model X.prog X.w) X.A (compareOp .NotEq v u) (EP X pins σ Q) X.xe s) := by
  unfold eqv at e
  split at e
  · split at e
    · rename_i d d' e1 e2
      cases e
      obtain ⟨p1, s1⟩ := toD_sh R e1 r1
      obtain ⟨p2, s2⟩ := toD_sh R e2 r2
      exact ⟨fun q => op_eqD hu pins s σ H x y v u Q I rx ry ⟨_, _, by rw [g.K]; exact p1, by rw [g.K]; exact p2, s1, s2, q⟩,
        fun q => op_neD hu pins s σ H x y v u Q I rx ry ⟨_, _, by rw [g.K]; exact p1, by rw [g.K]; exact p2, s1, s2, q⟩⟩
    · cases e
  · cases e
theorem lt_of {op : CmpOp} {p : Int → Int → Bool} (h : OpR X (compareOp op) (rI0 fun i k => .bl (p i k))) : OpR X (compareOp op) (rTwo G (fun v w h => intLt v w p h)) := by
  rintro pins s σ H x y v u Q I rx ry ⟨W, j, hm, m, n, R, r1, r2, P⟩
  simp only [intLt] at P
  split at P
  · cases r1.int_inv; cases r2.int_inv
    exact opI0_of h I rx ry (P.ok R (.bl _))
  · exact P.elim
end
end Mi
/-! MS3: dicts. -/
namespace Mi
open PySem PySem.Spec PyProof.Rows L2

/-! ### keys -/
mutual
theorem nkey_inj : ∀ {a b : MV} {k : NestedKey}, nkey a = some k → nkey b = some k → a = b
  | .non, b, k, h, h' => by
    simp [nkey] at h
    subst h
    cases b <;> simp [nkey] at h' ⊢
  | .int i, b, k, h, h' => by
    simp [nkey] at h
    subst h
    cases b <;> simp [nkey] at h' ⊢
    exact h'.symm
  | .str x, b, k, h, h' => by
    simp [nkey] at h
    subst h
    cases b <;> simp [nkey] at h' ⊢
    exact h'.symm
  | .tup vs, b, k, h, h' => by
    simp only [nkey, Option.map_eq_some_iff] at h
    obtain ⟨ks, e, rfl⟩ := h
    cases b with
    | tup ws =>
      simp only [nkey, Option.map_eq_some_iff] at h'
      obtain ⟨ls, e', q⟩ := h'
      cases q
      rw [nkeys_inj e e']
    | _ => simp [nkey] at h'
  | .bl _, b, k, h, h' => by simp [nkey] at h
  | .rol _, b, k, h, h' => by simp [nkey] at h
  | .ref _, b, k, h, h' => by simp [nkey] at h
  | .exn _ _, b, k, h, h' => by simp [nkey] at h
theorem nkeys_inj : ∀ {a b : List MV} {k : List NestedKey}, nkeys a = some k → nkeys b = some k → a = b
  | [], [], _, _, _ => rfl
  | [], y :: ys, k, h, h' => by
    simp [nkeys] at h
    subst h
    simp only [nkeys, Option.bind_eq_some_iff, Option.map_eq_some_iff] at h'
    obtain ⟨_, _, _, _, q⟩ := h'
    cases q
  | x :: xs, [], k, h, h' => by
    simp [nkeys] at h'
    subst h'
    simp only [nkeys, Option.bind_eq_some_iff, Option.map_eq_some_iff] at h
    obtain ⟨_, _, _, _, q⟩ := h
    cases q
  | x :: xs, y :: ys, k, h, h' => by
    simp only [nkeys, Option.bind_eq_some_iff, Option.map_eq_some_iff] at h h'
    obtain ⟨k1, e1, ks, e2, rfl⟩ := h
    obtain ⟨l1, f1, ls, f2, q⟩ := h'
    cases q
    rw [nkey_inj e1 f1, nkeys_inj e2 f2]
end
mutual
theorem isKey_nkey : ∀ (n : Nat) (v : MV), isKey n v = true → ∃ k, nkey v = some k ∧ k.depth ≤ n
  | 0, _, h => by simp [isKey] at h
  | n + 1, v, h => by
    cases v with
    | non => exact ⟨_, rfl, Nat.zero_le _⟩
    | int i => exact ⟨_, rfl, Nat.zero_le _⟩
    | str x => exact ⟨_, rfl, Nat.zero_le _⟩
    | tup vs =>
      simp only [isKey] at h
      obtain ⟨ks, e, d⟩ := isKey_nkeys n vs h
      exact ⟨.tup ks, by simp [nkey, e], by simp only [NestedKey.depth]; omega⟩
    | _ => simp [isKey] at h
theorem isKey_nkeys : ∀ (n : Nat) (vs : List MV), vs.all (isKey n) = true → ∃ ks, nkeys vs = some ks ∧ NestedKey.depthAll ks ≤ n
  | n, [], _ => ⟨[], rfl, Nat.zero_le _⟩
  | n, v :: vs, h => by
    rw [List.all_cons, Bool.and_eq_true] at h
    obtain ⟨k, e1, d1⟩ := isKey_nkey n v h.1
    obtain ⟨ks, e2, d2⟩ := isKey_nkeys n vs h.2
    exact ⟨k :: ks, by simp [nkeys, e1, e2], by simp only [NestedKey.depthAll]; omega⟩
end
section
variable {X : Cx} {G : Glb} {pins : List (Addr × Obj)} {σ : L2.St} {H : Hp} {s : Shared} {j : List Addr}
mutual
theorem nkey_is (g : XG G X) (I : Inv X pins σ H s) : ∀ (m : MV) (v : V) (u : Value) (k : NestedKey), nkey m = some k → VR G j H m v → RelV v u → NestedIs s.heap k u
  | .non, v, u, k, e, r, q => by
    simp [nkey] at e; subst e
    cases r; cases q
    exact .none
  | .int i, v, u, k, e, r, q => by
    simp [nkey] at e; subst e
    cases r
    obtain ⟨t, rfl⟩ := q
    exact .int _ _
  | .str x, v, u, k, e, r, q => by
    simp [nkey] at e; subst e
    cases r
    obtain ⟨t, rfl⟩ := q
    exact .text _ _
  | .tup vs, v, u, k, e, r, q => by
    simp only [nkey, Option.map_eq_some_iff] at e
    obtain ⟨ks, e, rfl⟩ := e
    obtain ⟨a, xs, rfl, h1, h2⟩ := r.tup_inv
    cases q
    obtain ⟨its, rv, ⟨o, ho, hc, n, hd⟩, _⟩ := I.tuple (xs := xs) (by rw [g.K]; exact h1)
    exact .tup ho hc hd (by simpa using nkeys_is g I vs xs its ks e h2 rv)
  | .bl _, _, _, _, h, _, _ => by simp [nkey] at h
  | .rol _, _, _, _, h, _, _ => by simp [nkey] at h
  | .ref _, _, _, _, h, _, _ => by simp [nkey] at h
  | .exn _ _, _, _, _, h, _, _ => by simp [nkey] at h
theorem nkeys_is (g : XG G X) (I : Inv X pins σ H s) : ∀ (m : List MV) (v : List V) (u : List Value) (k : List NestedKey), nkeys m = some k → VRs G j H m v → Vals v u → NestedAll s.heap k u
  | [], v, u, k, e, r, q => by
    simp [nkeys] at e; subst e
    cases r; cases q
    exact .nil
  | m :: ms, v, u, k, e, r, q => by
    simp only [nkeys, Option.bind_eq_some_iff, Option.map_eq_some_iff] at e
    obtain ⟨k1, e1, ks, e2, rfl⟩ := e
    cases r with
    | cons r1 r2 =>
      cases q with
      | cons q1 q2 => exact .cons (nkey_is g I m _ _ k1 e1 r1 q1) (nkeys_is g I ms _ _ ks e2 r2 q2)
end

/-! ### the two forms of a table, read -/
theorem keyMV_inj {a b : Key} (h : keyMV a = keyMV b) : a = b := by
  cases a <;> cases b <;> simp [keyMV] at h <;> simp [h]
theorem keyMV_tup {a : Key} : isTup (keyMV a) = false := by cases a <;> rfl
theorem krow_get {kvs : List (MV × MV)} {kvs' : List (Key × V)} (r : Paired (KRow G j H) kvs kvs') (k : Key) : match dget kvs (keyMV k) with
    | none => valV kvs' k = none
    | some m => ∃ v, valV kvs' k = some v ∧ VR G j H m v := by
  induction r with
  | nil => simp [dget, valV]
  | @cons p q ps qs h t ih =>
    obtain ⟨h1, h2⟩ := h
    by_cases e : q.1 = k
    · have e' : p.1 = keyMV k := by rw [h1, e]
      have d : dget (p :: ps) (keyMV k) = some p.2 := by simp [dget, List.find?_cons, e']
      rw [d, valV_pos e]
      exact ⟨_, rfl, h2⟩
    · have e' : ¬ p.1 = keyMV k := fun z => e (keyMV_inj (h1.symm.trans z))
      have d : dget (p :: ps) (keyMV k) = dget ps (keyMV k) := by simp [dget, List.find?_cons, e']
      rw [d, valV_neg e]
      exact ih
theorem krow_any {kvs : List (MV × MV)} {kvs' : List (Key × V)} (r : Paired (KRow G j H) kvs kvs') (k : Key) : (kvs.any fun p => decide (p.1 = keyMV k)) = kvs'.any fun kv => decide (kv.1 = k) := by
  induction r with
  | nil => rfl
  | @cons p q ps qs h t ih =>
    rw [List.any_cons, List.any_cons, ih]
    congr 1
    rw [h.1]
    by_cases e : q.1 = k
    · rw [e]; simp
    · rw [decide_eq_false e, decide_eq_false (fun z => e (keyMV_inj z))]
theorem krow_repl {kvs : List (MV × MV)} {kvs' : List (Key × V)} (r : Paired (KRow G j H) kvs kvs') (k : Key) {m : MV} {v : V} (h : VR G j H m v) :
    Paired (KRow G j H) (kvs.map fun p => if p.1 = keyMV k then (p.1, m) else p) (kvs'.map fun kv => if kv.1 = k then (kv.1, v) else kv) := by
  induction r with
  | nil => exact .nil
  | @cons p q ps qs h0 t ih =>
    rw [List.map_cons, List.map_cons]
    refine .cons ?_ ih
    by_cases e : q.1 = k
    · rw [if_pos (by rw [h0.1, e]), if_pos e]
      exact ⟨h0.1, h⟩
    · rw [if_neg (fun z => e (keyMV_inj (h0.1.symm.trans z))), if_neg e]
      exact h0
theorem krow_put {kvs : List (MV × MV)} {kvs' : List (Key × V)} (r : Paired (KRow G j H) kvs kvs') (k : Key) {m : MV} {v : V} (h : VR G j H m v) : Paired (KRow G j H) (dput kvs (keyMV k) m) (putK kvs' k v) := by
  unfold dput putK
  rw [krow_any r k]
  split
  · exact krow_repl r k h
  · exact Paired.snoc r ⟨rfl, h⟩
theorem krow_drop {kvs : List (MV × MV)} {kvs' : List (Key × V)} (r : Paired (KRow G j H) kvs kvs') (k : Key) : Paired (KRow G j H) (ddrop kvs (keyMV k)) (dropK kvs' k) := by
  unfold ddrop dropK
  induction r with
  | nil => exact .nil
  | @cons p q ps qs h0 t ih =>
    rw [List.filter_cons, List.filter_cons]
    by_cases e : q.1 = k
    · have a : ¬ decide (p.1 ≠ keyMV k) = true := by simp [h0.1, e]
      have b : ¬ decide (q.1 ≠ k) = true := by simp [e]
      rw [if_neg a, if_neg b]; exact ih
    · have a : decide (p.1 ≠ keyMV k) = true := decide_eq_true fun z => e (keyMV_inj (h0.1.symm.trans z))
      have b : decide (q.1 ≠ k) = true := by simp [e]
      rw [if_pos a, if_pos b]; exact .cons h0 ih
theorem nrow_get {kvs : List (MV × MV)} {xs : List (NestedKey × Addr × Value)} (r : Paired (NRow G j H) kvs xs) {k : MV} {n : NestedKey} (hn : nkey k = some n) : match dget kvs k with
    | none => atKey xs n = none
    | some m => ∃ b u v, atKey xs n = some (b, u) ∧ RelV v u ∧ VR G j H m v := by
  induction r with
  | nil => simp [dget, atKey]
  | @cons p q ps qs h t ih =>
    obtain ⟨h1, _, _, _, v, h2, h3⟩ := h
    by_cases e : q.1 = n
    · have e' : p.1 = k := nkey_inj (k := n) (by rw [h1, e]) hn
      have d : dget (p :: ps) k = some p.2 := by simp [dget, List.find?_cons, e']
      have b : atKey (q :: qs) n = some q.2 := by simp [atKey, List.find?_cons, e]
      rw [d, b]
      exact ⟨_, _, _, rfl, h2, h3⟩
    · have e' : ¬ p.1 = k := fun z => e (by rw [z, hn] at h1; exact (Option.some.inj h1).symm)
      have d : dget (p :: ps) k = dget ps k := by simp [dget, List.find?_cons, e']
      have b : atKey (q :: qs) n = atKey qs n := by simp [atKey, List.find?_cons, e]
      rw [d, b]
      exact ih
theorem nrow_any {kvs : List (MV × MV)} {xs : List (NestedKey × Addr × Value)} (r : Paired (NRow G j H) kvs xs) {k : MV} {n : NestedKey} (hn : nkey k = some n) : (kvs.any fun p => decide (p.1 = k)) = (atKey xs n).isSome := by
  induction r with
  | nil => simp [atKey]
  | @cons p q ps qs h t ih =>
    obtain ⟨h1, _⟩ := h
    rw [List.any_cons, ih]
    by_cases e : q.1 = n
    · have e' : p.1 = k := nkey_inj (k := n) (by rw [h1, e]) hn
      simp [atKey, List.find?_cons, e, e']
    · have e' : ¬ p.1 = k := fun z => e (by rw [z, hn] at h1; exact (Option.some.inj h1).symm)
      simp [atKey, List.find?_cons, e, e']
theorem nrow_repl {kvs : List (MV × MV)} {xs : List (NestedKey × Addr × Value)} (r : Paired (NRow G j H) kvs xs) {k : MV} {n : NestedKey} (hn : nkey k = some n) {m : MV} {v : V} {u : Value} (hu : RelV v u) (hm : VR G j H m v) :
    Paired (NRow G j H) (kvs.map fun p => if p.1 = k then (p.1, m) else p) (xs.map (putAt n u)) := by
  induction r with
  | nil => exact .nil
  | @cons p q ps qs h0 t ih =>
    rw [List.map_cons, List.map_cons]
    refine .cons ?_ ih
    obtain ⟨h1, h2, h2', h3, w, h4, h5⟩ := h0
    unfold putAt
    by_cases e : q.1 = n
    · have e' : p.1 = k := nkey_inj (k := n) (by rw [h1, e]) hn
      rw [if_pos e, if_pos e']
      exact ⟨h1, h2, h2', h3, v, hu, hm⟩
    · have e' : ¬ p.1 = k := fun z => e (by rw [z, hn] at h1; exact (Option.some.inj h1).symm)
      rw [if_neg e, if_neg e']
      exact ⟨h1, h2, h2', h3, w, h4, h5⟩
theorem nrow_put {kvs : List (MV × MV)} {xs : List (NestedKey × Addr × Value)} (r : Paired (NRow G j H) kvs xs) {k : MV} {n : NestedKey} {b : Addr} {m : MV} {u : Value} (row : NRow G j H (k, m) (n, b, u)) :
    Paired (NRow G j H) (dput kvs k m) (storedH xs n b u) := by
  obtain ⟨hn, hd, ht, hk, v, hu, hm⟩ := id row
  unfold dput storedH
  rw [nrow_any r hn]
  split
  · exact nrow_repl r hn hu hm
  · exact Paired.snoc r row
theorem nrow_drop {kvs : List (MV × MV)} {xs : List (NestedKey × Addr × Value)} (r : Paired (NRow G j H) kvs xs) {k : MV} {n : NestedKey} (hn : nkey k = some n) : Paired (NRow G j H) (ddrop kvs k) (withoutH xs n) := by
  unfold ddrop withoutH
  induction r with
  | nil => exact .nil
  | @cons p q ps qs h0 t ih =>
    rw [List.filter_cons, List.filter_cons]
    by_cases e : q.1 = n
    · have e' : p.1 = k := nkey_inj (k := n) (by rw [h0.1, e]) hn
      have a : ¬ decide (p.1 ≠ k) = true := by simp [e']
      have b : ¬ decide (q.1 ≠ n) = true := by simp [e]
      rw [if_neg a, if_neg b]; exact ih
    · have e' : ¬ p.1 = k := fun z => e (by have h1 := h0.1; rw [z, hn] at h1; exact (Option.some.inj h1).symm)
      have a : decide (p.1 ≠ k) = true := by simp [e']
      have b : decide (q.1 ≠ n) = true := by simp [e]
      rw [if_pos a, if_pos b]; exact .cons h0 ih
theorem dput_len (kvs : List (MV × MV)) (k v : MV) : (dput kvs k v).length ≤ kvs.length + 1 := by
  unfold dput
  split
  · rw [List.length_map]; omega
  · rw [List.length_append, List.length_cons, List.length_nil]; omega
theorem ddrop_len (kvs : List (MV × MV)) (k : MV) : (ddrop kvs k).length ≤ kvs.length := List.length_filter_le _ _

theorem nrow_is (g : XG G X) (I : Inv X pins σ H s) {xs : List (NestedKey × Addr × Value)} {kvs : List (MV × MV)} (r : Paired (NRow G j H) kvs xs) : ∀ x ∈ xs, (nestedKind X.prog X.w).is s.heap x.1 x.2.1 := by
  intro x hx
  induction r with
  | nil => cases hx
  | @cons p q ps qs h0 t ih =>
    rcases List.mem_cons.mp hx with e | hx
    · subst e
      obtain ⟨h1, h2, _, h3, _⟩ := h0
      exact ⟨nkey_is g I _ _ _ _ h1 h3 rfl, h2⟩
    · exact ih hx
/-- the table of tuples as the library has it -/
theorem raw_of (g : XG G X) (I : Inv X pins σ H s) {a : Addr} {xs : List (NestedKey × Addr × Value)} {kvs : List (MV × MV)} (h : Rd H a (rawN G a xs)) (r : Paired (NRow G j H) kvs xs) :
    s.heap.DictOfH (nestedKind X.prog X.w) a xs ∧ xs.length ≤ sizeLine ∧ (a == sysModules) = false := by
  have ok : ObjOk X.prog X.w H s.heap a (rawN G a xs) := h.ok I.hok
  obtain ⟨⟨z, hs, o, es, ep, h1, h2, h3, h4, h5⟩, _⟩ := ok
  rw [← g.prog, ← g.w] at h4
  exact ⟨⟨o, es, ep, h1, h2, h3, h4, fun x hx => nrow_is g I r x hx, h5⟩, z, hs⟩
/-- an empty table is one of tuples -/
theorem raw_empty (g : XG G X) (I : Inv X pins σ H s) {a : Addr} (h : Rd H a (.dK [])) : s.heap.DictOfH (nestedKind X.prog X.w) a [] ∧ (a == sysModules) = false := by
  obtain ⟨z, hd, vs, rel, o, es, ep, h1, h2, h3, h4, h5, h6⟩ := dk_rd I.hok h
  cases rel
  refine ⟨⟨o, es, ep, h1, h2, h3, ?_, fun x hx => (by simp at hx), List.nodup_nil⟩, hd⟩
  cases e : es.toList with
  | nil => rfl
  | cons y ys => rw [e] at h5; cases h5
/-- an empty one of tuples is one of numbers and texts -/
theorem mix_empty (g : XG G X) (I : Inv X pins σ H s) {a : Addr} (h : Rd H a (rawN G a [])) : s.heap.DictOf (mixKind X.prog X.w) a [] ∧ (a == sysModules) = false := by
  have ok : ObjOk X.prog X.w H s.heap a (rawN G a []) := h.ok I.hok
  obtain ⟨⟨z, hs, o, es, ep, h1, h2, h3, h4, h5⟩, _⟩ := ok
  have e0 : es.toList = [] := h4
  refine ⟨⟨o, es, ep, h1, h2, h3, fun e he => ?_, by rw [e0]; exact .nil, .nil⟩, hs⟩
  have : e ∈ es.toList := Array.mem_toList_iff.mpr he
  rw [e0] at this
  cases this

/-! ### operations on dicts -/
theorem okKey_cases {k : MV} (h : okKey k = true) : (∃ key, k = keyMV key) ∨ ∃ vs n, k = .tup vs ∧ nkey k = some n ∧ n.depth ≤ 8 := by
  cases k with
  | int i => exact .inl ⟨.inl i, rfl⟩
  | str x => exact .inl ⟨.inr x, rfl⟩
  | tup vs =>
    obtain ⟨n, h1, h2⟩ := isKey_nkey 8 (.tup vs) (by simpa [okKey] using h)
    exact .inr ⟨vs, n, rfl, h1, h2⟩
  | _ => simp [okKey] at h
theorem fits_dk {kvs : List (MV × MV)} {kvs' : List (Key × V)} {vs : List MV} (h : keyFits kvs (.tup vs) = true) (r : Paired (KRow G j H) kvs kvs') : kvs = [] ∧ kvs' = [] := by
  cases r with
  | nil => exact ⟨rfl, rfl⟩
  | cons p q =>
    simp only [keyFits, Bool.and_eq_true, List.all_cons] at h
    have h2 := h.2.1
    rw [p.1, keyMV_tup] at h2
    cases h2
theorem fits_dn {kvs : List (MV × MV)} {xs : List (NestedKey × Addr × Value)} {k : Key} (h : keyFits kvs (keyMV k) = true) (r : Paired (NRow G j H) kvs xs) : kvs = [] ∧ xs = [] := by
  cases r with
  | nil => exact ⟨rfl, rfl⟩
  | cons p q =>
    simp only [keyFits, Bool.and_eq_true, List.all_cons] at h
    have h2 := h.2.1
    obtain ⟨_, _, ⟨ws, e⟩, _⟩ := p
    rw [e, keyMV_tup] at h2
    cases h2
theorem RH.dic {hm : MH} (R : RH G j H hm) {n : Nat} {lk : Bool} {kvs : List (MV × MV)} {v : V} (h : hm[n]? = some (.dic lk kvs)) (hv : VR G j H (.ref n) v) : ∃ a u, v = .ref a ∧ j[n]? = some a ∧ Rd H a u ∧ DR G j H a kvs u := by
  obtain ⟨a, rfl, hj⟩ := hv.ref_inv
  have o := R.ob n _ a h hj
  cases lk with
  | false =>
    obtain ⟨u, h1, h2⟩ := o
    exact ⟨a, u, rfl, hj, .inl h1, h2⟩
  | true =>
    obtain ⟨od, u, h1, h2⟩ := o
    exact ⟨a, u, rfl, hj, .inr ⟨od, h1⟩, h2⟩
theorem keyV_of {k : Key} {y : V} (r : VR G j H (keyMV k) y) : y = kV k := by
  cases k with
  | inl i => exact r.int_inv
  | inr x => exact r.str_inv
/-- what a look-up finds -/
theorem mix_of (g : XG G X) (I : Inv X pins σ H s) {a : Addr} {u : HO} {kvs : List (MV × MV)} {k : Key} (hr : Rd H a u) (D : DR G j H a kvs u) (hf : keyFits kvs (keyMV k) = true) :
    ∃ vs, s.heap.DictOf (mixKind X.prog X.w) a vs ∧ (a == sysModules) = false ∧ vs.length = kvs.length ∧ (match dget kvs (keyMV k) with
      | none => valueAt vs k = none
      | some m => ∃ w v, valueAt vs k = some w ∧ RelV v w ∧ VR G j H m v) := by
  rcases D with ⟨kvs', rfl, r⟩ | ⟨xs, rfl, r⟩
  · obtain ⟨z, hd, vs, rel, dd⟩ := dk_rd I.hok hr
    refine ⟨vs, dd, hd, by rw [← rel.length, Paired.length r], ?_⟩
    have q := krow_get r k
    have q2 := rel.val k
    cases e : dget kvs (keyMV k) with
    | none =>
      rw [e] at q
      rw [q] at q2
      exact RelO.none_of q2
    | some m =>
      rw [e] at q
      obtain ⟨v, e1, r1⟩ := q
      rw [e1] at q2
      obtain ⟨w, e2, r2⟩ := RelO.some_of q2
      exact ⟨w, v, e2, r2, r1⟩
  · obtain ⟨rfl, rfl⟩ := fits_dn hf r
    obtain ⟨dd, hd⟩ := mix_empty g I hr
    exact ⟨[], dd, hd, rfl, by simp [dget, valueAt]⟩
theorem nest_of (g : XG G X) (I : Inv X pins σ H s) {a : Addr} {u : HO} {kvs : List (MV × MV)} {ks : List MV} {n : NestedKey} (hr : Rd H a u) (D : DR G j H a kvs u) (hf : keyFits kvs (.tup ks) = true) (hn : nkey (.tup ks) = some n) :
    ∃ xs, s.heap.DictOfH (nestedKind X.prog X.w) a xs ∧ (a == sysModules) = false ∧ Paired (NRow G j H) kvs xs := by
  rcases D with ⟨kvs', rfl, r⟩ | ⟨xs, rfl, r⟩
  · obtain ⟨rfl, rfl⟩ := fits_dk hf r
    obtain ⟨dd, hd⟩ := raw_empty g I hr
    exact ⟨[], dd, hd, .nil⟩
  · obtain ⟨dd, _, hd⟩ := raw_of g I hr r
    exact ⟨xs, dd, hd, r⟩
section
variable {hm : MH} {n : Nat} {lk : Bool} {kvs : List (MV × MV)} {k m : MV} {x y : V} {u ov : Value}
theorem d_get (g : XG G X) (hu : X.A.units + 64 < cLine) (I : Inv X pins σ H s) (R : RH G j H hm) (e : hm[n]? = some (.dic lk kvs)) (hf : keyFits kvs k = true) (hv : VR G j H (.ref n) x) (hk : VR G j H k y) (rx : RelV x ov) (ry : RelV y u)
    (hm' : dget kvs k = some m) {Q : Value → Shared → Prop} (h : ∀ w v s', Inv X pins σ H s' → RelV v w → VR G j H m v → Q w s') : wpAny (model X.prog X.w) X.A (getItem ov u) Q X.xe s := by
  obtain ⟨a, o, rfl, hj, hr, D⟩ := R.dic e hv
  cases rx
  have hok := hf
  simp only [keyFits, Bool.and_eq_true] at hok
  rcases okKey_cases hok.1 with ⟨key, rfl⟩ | ⟨ks, nk, rfl, hn, hd⟩
  · cases keyV_of hk
    obtain ⟨vs, dd, hs, _, q⟩ := mix_of g I hr D hf
    rw [hm'] at q
    obtain ⟨w, v, e1, r1, r2⟩ := q
    exact wpAny_getItem_of (kV_is ry) dd.mapOf e1 (h w v _ (I.tok _) r1 r2)
  · obtain ⟨xs, dd, hs, r⟩ := nest_of g I hr D hf hn
    have q := nrow_get r hn
    rw [hm'] at q
    obtain ⟨b, w, v, e1, r1, r2⟩ := q
    obtain ⟨c, zs, rfl, _, _⟩ := hk.tup_inv
    cases ry
    refine wpAny_getItem_heap (knd := nestedKind X.prog X.w) (show X.A.units + 1 + 8 < cLine by omega) ⟨nkey_is g I _ _ _ _ hn hk rfl, hd⟩ dd e1 (h w v _ (I.tok _) r1 r2)
theorem d_inN (g : XG G X) (hu : X.A.units + 64 < cLine) (I : Inv X pins σ H s) (R : RH G j H hm) (e : hm[n]? = some (.dic lk kvs)) (hf : keyFits kvs k = true) (hv : VR G j H (.ref n) x) (hk : VR G j H k y) (rx : RelV x ov) (ry : RelV y u)
    {Q : Value → Shared → Prop} : ((∀ s', Inv X pins σ H s' → Q (.bool (dget kvs k).isSome) s') → wpAny (model X.prog X.w) X.A (compareOp .In u ov) Q X.xe s) ∧
      ((∀ s', Inv X pins σ H s' → Q (.bool (!(dget kvs k).isSome)) s') → wpAny (model X.prog X.w) X.A (compareOp .NotIn u ov) Q X.xe s) := by
  obtain ⟨a, o, rfl, hj, hr, D⟩ := R.dic e hv
  cases rx
  have hok := hf
  simp only [keyFits, Bool.and_eq_true] at hok
  rcases okKey_cases hok.1 with ⟨key, rfl⟩ | ⟨ks, nk, rfl, hn, hd⟩
  · cases keyV_of hk
    obtain ⟨vs, dd, hs, _, q⟩ := mix_of g I hr D hf
    have q2 : (valueAt vs key).isSome = (dget kvs (keyMV key)).isSome := by
      cases e : dget kvs (keyMV key) with
      | none => rw [e] at q; rw [q] <;> rfl
      | some m => rw [e] at q; obtain ⟨w, v, e1, _⟩ := q; rw [e1] <;> rfl
    exact ⟨fun h => wpAny_in_of (kV_is ry) hs dd.mapOf (by rw [q2]; exact h _ (I.tok _)), fun h => wpAny_notIn_of (kV_is ry) hs dd.mapOf (by rw [q2]; exact h _ (I.tok _))⟩
  · obtain ⟨xs, dd, hs, r⟩ := nest_of g I hr D hf hn
    have q := nrow_get r hn
    have q2 : (atKey xs nk).isSome = (dget kvs (.tup ks)).isSome := by
      cases e : dget kvs (.tup ks) with
      | none => rw [e] at q; rw [q] <;> rfl
      | some m => rw [e] at q; obtain ⟨b, w, v, e1, _⟩ := q; rw [e1] <;> rfl
    obtain ⟨c, zs, rfl, _, _⟩ := hk.tup_inv
    cases ry
    refine ⟨fun h => wpAny_in_heap (knd := nestedKind X.prog X.w) (show X.A.units + 1 + 8 < cLine by omega) ⟨nkey_is g I _ _ _ _ hn hk rfl, hd⟩ hs dd (by rw [q2]; exact h _ (I.tok _)), fun h => ?_⟩
    exact notIn_keyed (knd := nestedKind X.prog X.w) (kvs := pairsH xs) (show X.A.units + 1 + 8 < cLine by omega) ⟨nkey_is g I _ _ _ _ hn hk rfl, hd⟩ hs ⟨xs, dd, rfl⟩ (by rw [valueAt_pairsH, Option.isSome_map, q2]; exact h _ (I.tok _))
/-- a dict's object behind a change -/
theorem raw_new {h' : Heap} {a : Addr} {H' : Hp} {xs : List (NestedKey × Addr × Value)} (g : XG G X) (z : xs.length ≤ sizeLine) (hd : (a == sysModules) = false) (dd : h'.DictOfH (nestedKind X.prog X.w) a xs) : ObjOk X.prog X.w H' h' a (rawN G a xs) := by
  obtain ⟨o, es, ep, h1, h2, h3, h4, _, h5⟩ := dd
  refine ⟨⟨z, hd, o, es, ep, h1, h2, h3, by rw [← g.prog, ← g.w]; exact h4, h5⟩, ⟨o, h1⟩, fun g1 g2 p e => ?_⟩
  obtain ⟨z, hd, o, es, ep, h1, h2, h3, h4, h5⟩ := p
  exact ⟨z, hd, o, es, ep, e _ h1, h2, h3, h4, h5⟩
theorem dic_len {a : Addr} {o : HO} (g : XG G X) (I : Inv X pins σ H s) (hr : Rd H a o) (D : DR G j H a kvs o) : kvs.length ≤ sizeLine := by
  rcases D with ⟨kvs', rfl, r⟩ | ⟨xs, rfl, r⟩
  · rw [Paired.length r]
    exact (dk_rd I.hok hr).1
  · rw [Paired.length r]
    exact (raw_of g I hr r).2.1
theorem mutD {a : Addr} {o : HO} (D : DR G j H a kvs o) : Mut (some o) := by
  rcases D with ⟨kvs', rfl, r⟩ | ⟨xs, rfl, r⟩ <;> trivial
theorem notTupD {a : Addr} {o : HO} (D : DR G j H a kvs o) : (∀ xs, o ≠ .tup xs) ∧ ∀ ob w, o ≠ .frz ob w := by
  rcases D with ⟨kvs', rfl, r⟩ | ⟨xs, rfl, r⟩
  · exact ⟨fun _ z => (nomatch z), fun _ _ z => (nomatch z)⟩
  · exact ⟨fun _ z => (nomatch (show HO.ext _ = _ from z)), fun _ _ z => (nomatch (show HO.ext _ = _ from z))⟩
/-- d[k] = m -/
theorem d_put (g : XG G X) (hu : X.A.units + 64 < cLine) (I : Inv X pins σ H s) (R : RH G j H hm) (e : hm[n]? = some (.dic false kvs)) (hf : keyFits kvs k = true) (hl : kvs.length < sizeLine) (hv : VR G j H (.ref n) x) (hk : VR G j H k y)
    {z : V} {zv : Value} (hz : VR G j H m z) (rx : RelV x ov) (ry : RelV y u) (rz : RelV z zv) {Q : Unit → Shared → Prop}
    (h : ∀ H' s', Inv X pins σ H' s' → Fut j H j H' → RH G j H' (hm.set n (.dic false (dput kvs k m))) → Q () s') : wpAny (model X.prog X.w) X.A (setItem ov u zv) Q X.xe s := by
  obtain ⟨a, rfl, hj⟩ := hv.ref_inv
  obtain ⟨o, ho, D⟩ := R.ob n _ a e hj
  cases rx
  have hok := hf
  simp only [keyFits, Bool.and_eq_true] at hok
  have hlen := dput_len kvs k m
  have mu : Mut (H a) := by rw [ho]; exact mutD D
  have fin : ∀ {H' : Hp} {s' : Shared} {o' : HO}, H' = upd H a o' → Inv X pins σ H' s' → DR G j H' a (dput kvs k m) o' → Q () s' := by
    rintro H' s' o' rfl I' D'
    have f := fut_set (j := j) (u := o') ho (notTupD D).1 (notTupD D).2
    exact h _ _ I' f (R.set hj f ⟨o', upd_same, D'⟩)
  rcases okKey_cases hok.1 with ⟨key, rfl⟩ | ⟨ks, nk, rfl, hn, hd⟩
  · cases keyV_of hk
    rcases id D with ⟨kvs', rfl, r⟩ | ⟨xs, rfl, r⟩
    · obtain ⟨_, hd, vs, rel, dd⟩ := dk_of I.hok ho
      have hz' : vs.length ≤ sizeLine := by rw [← rel.length, ← Paired.length r]; omega
      have hl' : (putK kvs' key z).length ≤ sizeLine := by have := length_putK kvs' key z; rw [Paired.length r] at hl; omega
      refine wpAny_setItem_pairs (hsz := hz') (kV_is ry) dd fun h' dd' hs => ?_
      have he : ∃ q, h'.get? a = some q := let ⟨q, _, _, hq, _⟩ := dd'; ⟨q, hq⟩
      refine fin rfl (d_write I mu hs he (dk_new hl' hd (rel.put key rz) dd')) (.inl ⟨_, rfl, ?_⟩)
      exact krow_put (Paired.mapP r fun _ _ w => w.mono (fut_set ho (notTupD D).1 (notTupD D).2)) key (hz.mono (fut_set ho (notTupD D).1 (notTupD D).2))
    · obtain ⟨rfl, rfl⟩ := fits_dn hf r
      obtain ⟨dd, hd⟩ := mix_empty g I (.inl ho)
      refine wpAny_setItem_pairs (hsz := Nat.zero_le _) (kV_is ry) dd fun h' dd' hs => ?_
      have he : ∃ q, h'.get? a = some q := let ⟨q, _, _, hq, _⟩ := dd'; ⟨q, hq⟩
      refine fin (o' := .dK (putK [] key z)) rfl (d_write I mu hs he (dk_new (by show (putK [] key z).length ≤ sizeLine; simp [putK, sizeLine_eq]) hd (KV.put .nil key rz) dd')) (.inl ⟨_, rfl, ?_⟩)
      exact krow_put .nil key (hz.mono (fut_set ho (notTupD D).1 (notTupD D).2))
  · obtain ⟨xs, dd, hs, r⟩ := nest_of g I (.inl ho) D hf hn
    obtain ⟨c, zs, rfl, _, _⟩ := hk.tup_inv
    cases ry
    have hx : xs.length ≤ sizeLine := by rw [← Paired.length r]; omega
    have row : NRow G j H (.tup ks, m) (nk, c, zv) := ⟨hn, hd, ⟨ks, rfl⟩, hk, z, rz, hz⟩
    have hl' : (storedH xs nk c zv).length ≤ sizeLine := by
      rw [← Paired.length (nrow_put r row)]
      omega
    refine wpAny_setItem_heap (hsz := hx) (knd := nestedKind X.prog X.w) (show X.A.units + 1 + 8 < cLine by omega) ⟨nkey_is g I _ _ _ _ hn hk rfl, hd⟩ dd fun h' dd' hs' => ?_
    have he : ∃ q, h'.get? a = some q := let ⟨q, _, _, hq, _⟩ := dd'; ⟨q, hq⟩
    refine fin rfl (d_write I mu hs' he (raw_new g hl' hs dd')) (.inr ⟨_, rfl, ?_⟩)
    have f := fut_set (j := j) (u := rawN G a (storedH xs nk c zv)) ho (notTupD D).1 (notTupD D).2
    exact nrow_put (Paired.mapP r fun _ _ w => w.mono f) (row.mono f)
end
end
end Mi
/-! MS4: comparisons, subscripts, built-ins. -/
namespace Mi
open PySem PySem.Spec PyProof.Rows L2
section
variable {X : Cx} {G : Glb}
theorem dictOf_ref {hm : MH} {m : MV} {kvs : List (MV × MV)} (h : dictOf hm m = some kvs) : ∃ n lk, m = .ref n ∧ hm[n]? = some (.dic lk kvs) := by
  cases m with
  | ref n =>
    simp only [dictOf] at h
    split at h
    · rename_i lk kvs' e
      cases h
      exact ⟨n, lk, rfl, e⟩
    · cases h
  | _ => simp [dictOf] at h
theorem in_ok (g : XG G X) (hu : X.A.units + 65 < cLine) {j : List Addr} {H : Hp} {hm : MH} (R : RH G j H hm) {m n : MV} {x y : V} {b : Bool} (e : inOp m n hm = some b)
    (r1 : VR G j H m x) (r2 : VR G j H n y) {pins : List (Addr × Obj)} {s : Shared} {σ : L2.St} {v u : Value} {Q : VK} (I : Inv X pins σ H s) (rx : RelV x v) (ry : RelV y u) :
    (Q (.bl b) H → wpAny (model X.prog X.w) X.A (compareOp .In v u) (EP X pins σ Q) X.xe s) ∧ (Q (.bl (!b)) H → wpAny (model X.prog X.w) X.A (compareOp .NotIn v u) (EP X pins σ Q) X.xe s) := by
  unfold inOp at e
  split at e
  · rename_i kvs e1
    obtain ⟨k, lk, rfl, e2⟩ := dictOf_ref e1
    split at e
    · rename_i hf
      cases e
      obtain ⟨p1, p2⟩ := d_inN (Q := EP X pins σ Q) g (by omega) I R e2 hf r2 r1 ry rx
      exact ⟨fun q => p1 fun s' I' => ⟨.bl _, H, I', rfl, q⟩, fun q => p2 fun s' I' => ⟨.bl _, H, I', rfl, q⟩⟩
    · cases e
  · split at e
    · rename_i k
      split at e
      · rename_i vs e1
        split at e
        · rename_i d ds e2 e3
          cases e
          obtain ⟨a, xs, rfl, _, h1, h2⟩ := R.lst e1 r2
          obtain ⟨p1, s1⟩ := toD_sh R e2 r1
          obtain ⟨p2, c2, d2⟩ := toDs_dp R 8 _ _ _ e3 h2
          have s2 : SeqAt.shaped (.list ds) = true := Bool.and_eq_true_iff.mpr ⟨by simpa [PyData.canLay0] using c2, decide_eq_true (by simp only [PyData.depth]; omega)⟩
          have p3 : Dp X.K H (.ref a) (.list ds) := .lst (SqL.of h1) (by rw [g.K]; exact p2)
          exact ⟨fun q => op_inD hu pins s σ H x _ v u Q I rx ry ⟨_, _, by rw [g.K]; exact p1, p3, s1, s2, q⟩,
            fun q => op_notInD hu pins s σ H x _ v u Q I rx ry ⟨_, _, by rw [g.K]; exact p1, p3, s1, s2, q⟩⟩
        · cases e
      · cases e
    · cases e
theorem cmp_ok (g : XG G X) (hu : X.A.units + 65 < cLine) (op : CmpOp) : OpR X (compareOp op) (rTwo G (cmpop op)) := by
  rintro pins s σ H x y v u Q I rx ry ⟨W, j, hm, m, n, R, r1, r2, P⟩
  cases op with
  | Eq =>
    simp only [cmpop] at P
    split at P
    · rename_i b e
      exact (eqv_ok g (by omega) R e r1 r2 I rx ry).1 (P.ok R (.bl _))
    · exact P.elim
  | NotEq =>
    simp only [cmpop] at P
    split at P
    · rename_i b e
      exact (eqv_ok g (by omega) R e r1 r2 I rx ry).2 (P.ok R (.bl _))
    · exact P.elim
  | Lt => exact lt_of op_lt pins s σ H x y v u Q I rx ry ⟨W, j, hm, m, n, R, r1, r2, P⟩
  | LtE => exact lt_of op_le pins s σ H x y v u Q I rx ry ⟨W, j, hm, m, n, R, r1, r2, P⟩
  | Gt => exact lt_of op_gt pins s σ H x y v u Q I rx ry ⟨W, j, hm, m, n, R, r1, r2, P⟩
  | GtE => exact lt_of op_ge pins s σ H x y v u Q I rx ry ⟨W, j, hm, m, n, R, r1, r2, P⟩
  | Is =>
    simp only [cmpop] at P
    split at P
    · cases r2.non_inv
      refine op_isN pins s σ H x _ v u Q I rx ry ⟨rfl, ?_⟩
      have q := P.ok R (.bl _)
      have e : decide (m = MV.non) = decide (x = V.non) := by
        cases r1 <;> simp
      rw [e] at q
      exact q
    · exact P.elim
  | IsNot =>
    simp only [cmpop] at P
    split at P
    · cases r2.non_inv
      refine op_notN pins s σ H x _ v u Q I rx ry ⟨rfl, ?_⟩
      have q := P.ok R (.bl _)
      have e : decide (m = MV.non) = decide (x = V.non) := by
        cases r1 <;> simp
      rw [e] at q
      exact q
    · exact P.elim
  | In =>
    simp only [cmpop] at P
    split at P
    · rename_i b e
      exact (in_ok g hu R e r1 r2 I rx ry).1 (P.ok R (.bl _))
    · exact P.elim
  | NotIn =>
    simp only [cmpop] at P
    split at P
    · rename_i b e
      exact (in_ok g hu R e r1 r2 I rx ry).2 (P.ok R (.bl _))
    · exact P.elim

/-! ### subscripts -/
theorem dic_type (g : XG G X) {pins : List (Addr × Obj)} {s : Shared} {σ : L2.St} {H : Hp} {j : List Addr} (I : Inv X pins σ H s) {a : Addr} {u : HO} {kvs : List (MV × MV)} (hr : Rd H a u) (D : DR G j H a kvs u) : s.TypeIs (.ref a) "dict" := by
  rcases D with ⟨kvs', rfl, r⟩ | ⟨xs, rfl, r⟩
  · obtain ⟨_, _, vs, _, dd⟩ := dk_rd I.hok hr
    exact dd.typeIs
  · obtain ⟨dd, _⟩ := raw_of g I hr r
    exact dd.typeIs
theorem tail_of {value slice : Expr} {a : Addr} {u : Value} {Q : Value → Shared → Prop} {s : Shared} (hT : s.TypeIs (.ref a) "dict") (hs : subscripted slice false (.ref a) u = operate [.ref a, u] (getItem (.ref a) u))
    (h : wpAny (model X.prog X.w) X.A (getItem (.ref a) u) Q X.xe s) : wpAny (model X.prog X.w) X.A (subscriptTail value slice (.ref a) u) Q X.xe s := by
  unfold subscriptTail
  refine wpAny_bind ?_
  rw [getitemInPython_of_ne hT.not_modules]
  refine wpAny_bind (wpAny_specialOf hT PySem.F.slot_dict_getitem.lookup ?_)
  have fin : wpAny (model X.prog X.w) X.A (subscripted slice false (.ref a) u) (fun r s₃ => wpAny (model X.prog X.w) X.A (letTemporaryGo value (.ref a) r >>= fun _ => pure r) Q X.xe s₃) X.xe s := by
    rw [hs]
    exact wpAny_operating (wpAny_mono h (fun r s₃ h₃ => wpAny_bind (wpAny_letTemporaryGo (wpAny_pure h₃))) fun _ _ x => x)
  first
    | exact wpAny_pure (wpAny_bind fin)
    | exact wpAny_bind (wpAny_pure (wpAny_bind fin))
    | exact wpAny_bind fin
theorem ix_ok (g : XG G X) (hu : X.A.units + 65 < cLine) : IxR X (rTwo G getIx) := by
  rintro value slice pins s σ H x y v u Q I rx ry ⟨W, j, hm, m, n, R, r1, r2, P⟩ hs
  simp only [getIx] at P
  split at P
  · rename_i kvs e1
    obtain ⟨k, lk, rfl, e2⟩ := dictOf_ref e1
    split at P
    · rename_i hf
      split at P
      · rename_i w e3
        obtain ⟨a, o, e4, hj, hr, D⟩ := R.dic e2 r1
        subst e4
        obtain rfl : v = Value.ref a := rx
        exact tail_of (dic_type g I hr D) hs (d_get g (by omega) I R e2 hf r1 r2 rfl ry e3 fun w' z s' I' rw' rz => ⟨z, H, I', rw', P.ok R rz⟩)
      · exact P.elim
    · exact P.elim
  · split at P
    · rename_i vs k e1
      cases r2.int_inv
      split at P
      · rename_i w e2
        obtain ⟨a, xs, rfl, hq, hv⟩ := seq_of R e1 r1
        have hx : ∃ z, atI xs k = some z ∧ VR G j H w z := by
          unfold atI at e2 ⊢
          rw [← hv.length]
          cases e : ixN vs.length k with
          | none => rw [e] at e2; cases e2
          | some i =>
            rw [e] at e2
            exact hv.get e2
        obtain ⟨z, e3, hz⟩ := hx
        rcases hq with hq | hq
        · exact ix_list value slice pins s σ H _ _ v u Q I rx ry ⟨a, xs, k, z, rfl, rfl, by rw [g.K]; exact hq, e3, P.ok R hz⟩ hs
        · exact ix_tup value slice pins s σ H _ _ v u Q I rx ry ⟨a, xs, k, z, rfl, rfl, by rw [g.K]; exact hq, e3, P.ok R hz⟩ hs
      · exact P.elim
    · exact P.elim

/-! ### slices -/
theorem cut_ok {j : List Addr} {H : Hp} {ms : List MV} {vs : List V} (h : VRs G j H ms vs) (lo hi : Option Int) : VRs G j H (cutM ms lo hi) (cutV vs lo hi) := by
  unfold cutM cutV
  rw [h.length]
  exact (h.drop _).take _
/-- a slice's reading -/
def rSlM (G : Glb) : V → Option Int → Option Int → Hp → VK → Prop := fun x lo hi H Q => ∃ W j hm m, RH G j H hm ∧ VR G j H m x ∧ PostV G j H W (slice m lo hi hm) Q
theorem len_new {j : List Addr} {H : Hp} {hm : MH} (R : RH G j H hm) (p : Addr) : (j ++ [p])[hm.length]? = some p := by
  rw [← R.len]
  simp
theorem sl_ok (g : XG G X) : SlR X (rSlM G) := by
  rintro pins s σ H x v vl vu lo hi sl Q I rx hs pl pu ⟨W, j, hm, m, R, r1, P⟩
  unfold slice at P
  split at P
  · split at P
    · rename_i n vs e
      obtain ⟨a, xs, rfl, _, h1, h2⟩ := R.lst e r1
      exact sl_list pins s σ H _ v vl vu lo hi sl Q I rx hs pl pu ⟨a, xs, rfl, SqL.of h1, fun p hp => P.new R hp ⟨_, upd_same, (cut_ok h2 lo hi).mono (fut_alloc hp)⟩ (.ref (len_new R p))⟩
    · exact P.elim
  · obtain ⟨a, xs, rfl, h1, h2⟩ := r1.rol_inv
    exact sl_list pins s σ H _ v vl vu lo hi sl Q I rx hs pl pu ⟨a, xs, rfl, by rw [g.K]; exact h1.sq, fun p hp => P.new R hp ⟨_, upd_same, (cut_ok h2 lo hi).mono (fut_alloc hp)⟩ (.ref (len_new R p))⟩
  · exact P.elim

/-! ### built-in functions -/
def rFn (G : Glb) (f : List MV → MH → R MV) : List V → Hp → VK → Prop := fun xs H Q => ∃ W j hm ms, RH G j H hm ∧ VRs G j H ms xs ∧ PostV G j H W (f ms hm) Q
theorem VRs.one {j : List Addr} {H : Hp} {m : MV} {xs : List V} (h : VRs G j H [m] xs) : ∃ x, xs = [x] ∧ VR G j H m x := by
  cases h with
  | cons a b => cases b; exact ⟨_, rfl, a⟩
theorem VRs.two {j : List Addr} {H : Hp} {m n : MV} {xs : List V} (h : VRs G j H [m, n] xs) : ∃ x y, xs = [x, y] ∧ VR G j H m x ∧ VR G j H n y := by
  cases h with
  | cons a b =>
    obtain ⟨y, rfl, q⟩ := VRs.one b
    exact ⟨_, y, rfl, a, q⟩
theorem ints_of {j : List Addr} {H : Hp} : ∀ {ms : List MV} {ns : List Int} {xs : List V}, intsOf ms = some ns → VRs G j H ms xs → xs = ns.map V.int ∧ ms = ns.map MV.int
  | [], ns, xs, e, r => by
    simp [intsOf] at e
    subst e
    cases r
    exact ⟨rfl, rfl⟩
  | m :: ms, ns, xs, e, r => by
    cases r with
    | cons r1 r2 =>
      unfold intsOf at e
      rw [List.mapM_cons] at e
      cases m with
      | int i =>
        cases e2 : intsOf ms with
        | none =>
          unfold intsOf at e2
          rw [e2] at e
          cases e
        | some l =>
          obtain ⟨h1, h2⟩ := ints_of e2 r2
          unfold intsOf at e2
          rw [e2] at e
          cases e
          cases r1.int_inv
          rw [h1, h2]
          exact ⟨rfl, rfl⟩
      | _ => cases e
theorem ints_vr {j : List Addr} {H : Hp} : ∀ ns : List Int, VRs G j H (ns.map MV.int) (ns.map V.int)
  | [] => .nil
  | n :: ns => .cons (.int n) (ints_vr ns)
theorem insI_perm (a : Int) : ∀ l : List Int, (insI a l).Perm (a :: l)
  | [] => .refl _
  | b :: r => by
    unfold insI
    split
    · exact .refl _
    · exact ((insI_perm a r).cons b).trans (.swap a b r)
theorem sortI_perm : ∀ l : List Int, (sortI l).Perm l
  | [] => .refl _
  | a :: r => (insI_perm a (sortI r)).trans ((sortI_perm r).cons a)
theorem insI_sorted (a : Int) : ∀ l : List Int, l.Pairwise (· ≤ ·) → (insI a l).Pairwise (· ≤ ·)
  | [], _ => by simp [insI]
  | b :: r, h => by
    rw [List.pairwise_cons] at h
    unfold insI
    split
    · rename_i hab
      exact List.pairwise_cons.mpr ⟨fun x hx => by
        rcases List.mem_cons.mp hx with e | hx
        · omega
        · have := h.1 x hx; omega, List.pairwise_cons.mpr h⟩
    · rename_i hab
      refine List.pairwise_cons.mpr ⟨fun x hx => ?_, insI_sorted a r h.2⟩
      rcases List.mem_cons.mp ((insI_perm a r).subset hx) with e | hx
      · omega
      · exact h.1 x hx
theorem sortI_sorted : ∀ l : List Int, (sortI l).Pairwise (· ≤ ·)
  | [] => List.Pairwise.nil
  | a :: r => insI_sorted a _ (sortI_sorted r)
theorem sort_uniq : ∀ (l l' : List Int), l.Perm l' → l.Pairwise (· ≤ ·) → l'.Pairwise (· ≤ ·) → l = l'
  | [], l', p, _, _ => p.nil_eq
  | a :: r, l', p, h, h' => by
    cases l' with
    | nil => exact absurd p.length_eq (by simp)
    | cons b s =>
      rw [List.pairwise_cons] at h h'
      have e : a = b := by
        have h1 : b ∈ a :: r := p.symm.subset List.mem_cons_self
        have h2 : a ∈ b :: s := p.subset List.mem_cons_self
        rcases List.mem_cons.mp h1 with e | h1
        · exact e.symm
        · rcases List.mem_cons.mp h2 with e | h2
          · exact e
          · have := h.1 b h1; have := h'.1 a h2; omega
      subst e
      rw [sort_uniq r s (List.perm_cons a |>.mp p) h.2 h'.2]

def bfVal : BF → Value
  | .len => .builtin "len"
  | .abs => .builtin "abs"
  | .int => .type "int"
  | .list => .type "list"
  | .tuple => .type "tuple"
  | .sorted => .builtin "sorted"
  | .min2 => .builtin "min"
  | .max2 => .builtin "max"
  | .dict => .type "dict"
  | .sum => .builtin "sum"
  | .any => .builtin "any"
  | .str => .type "str"
  | .listRange => .none
  | .listRev => .none
  | .minD => .none
  | .boolF => .type "bool"
theorem fn_abs : CallR X (.builtin "abs") (rFn G (bfn .abs)) := by
  rintro pins s σ H xs us Q I r ⟨W, j, hm, ms, R, l, P⟩
  simp only [bfn] at P
  split at P
  · obtain ⟨x, rfl, h1⟩ := VRs.one l
    cases h1.int_inv
    exact call_abs pins s σ H _ us Q I r ⟨_, rfl, P.ok R (.int _)⟩
  · exact P.elim
theorem fn_min2 (hc : X.calm = true) : CallR X (.builtin "min") (rFn G (bfn .min2)) := by
  rintro pins s σ H xs us Q I r ⟨W, j, hm, ms, R, l, P⟩
  simp only [bfn] at P
  split at P
  · obtain ⟨x, y, rfl, h1, h2⟩ := VRs.two l
    cases h1.int_inv
    cases h2.int_inv
    exact call_min2 hc pins s σ H _ us Q I r ⟨_, _, rfl, P.ok R (.int _)⟩
  · exact P.elim
theorem fn_max2 (hc : X.calm = true) : CallR X (.builtin "max") (rFn G (bfn .max2)) := by
  rintro pins s σ H xs us Q I r ⟨W, j, hm, ms, R, l, P⟩
  simp only [bfn] at P
  split at P
  · obtain ⟨x, y, rfl, h1, h2⟩ := VRs.two l
    cases h1.int_inv
    cases h2.int_inv
    exact call_max2 hc pins s σ H _ us Q I r ⟨_, _, rfl, P.ok R (.int _)⟩
  · exact P.elim
theorem fn_int : CallR X (.type "int") (rFn G (bfn .int)) := by
  rintro pins s σ H xs us Q I r ⟨W, j, hm, ms, R, l, P⟩
  simp only [bfn] at P
  split at P
  · obtain ⟨x, rfl, h1⟩ := VRs.one l
    cases h1.int_inv
    exact call_int1 pins s σ H _ us Q I r (.inl ⟨_, rfl, P.ok R (.int _)⟩)
  · obtain ⟨x, rfl, h1⟩ := VRs.one l
    cases h1.bl_inv
    exact call_int1 pins s σ H _ us Q I r (.inr ⟨_, rfl, P.ok R (.int _)⟩)
  · exact P.elim
theorem fn_list (g : XG G X) : CallR X (.type "list") (rFn G (bfn .list)) := by
  rintro pins s σ H xs us Q I r ⟨W, j, hm, ms, R, l, P⟩
  simp only [bfn] at P
  split at P
  · obtain ⟨x, rfl, h1⟩ := VRs.one l
    split at P
    · rename_i vs e
      obtain ⟨a, ys, rfl, h2, h3⟩ := seq_of R e h1
      exact call_list_of pins s σ H _ us Q I r ⟨a, ys, rfl, by rw [g.K]; exact h2, fun p hp => P.new R hp ⟨_, upd_same, h3.mono (fut_alloc hp)⟩ (.ref (len_new R p))⟩
    · exact P.elim
  · exact P.elim
theorem fn_tuple (g : XG G X) : CallR X (.type "tuple") (rFn G (bfn .tuple)) := by
  rintro pins s σ H xs us Q I r ⟨W, j, hm, ms, R, l, P⟩
  simp only [bfn] at P
  split at P
  · obtain ⟨x, rfl, h1⟩ := VRs.one l
    split at P
    · rename_i vs e
      obtain ⟨a, ys, rfl, h2, h3⟩ := seq_of R e h1
      refine call_tuple_of pins s σ H _ us Q I r ⟨a, ys, rfl, ?_⟩
      rcases h2 with h2 | h2
      · exact .inl ⟨by rw [g.K]; exact h2, fun p hp => P.off R hp (.tup (SqT.of upd_same) (h3.mono (fut_new hp)))⟩
      · exact .inr ⟨by rw [g.K]; exact h2, P.ok R (.tup h2 h3)⟩
    · exact P.elim
  · exact P.elim
theorem fn_sorted (g : XG G X) : CallR X (.builtin "sorted") (rFn G (bfn .sorted)) := by
  rintro pins s σ H xs us Q I r ⟨W, j, hm, ms, R, l, P⟩
  simp only [bfn] at P
  split at P
  · obtain ⟨x, rfl, h1⟩ := VRs.one l
    split at P
    · rename_i n vs e
      split at P
      · rename_i ns e2
        obtain ⟨a, ys, rfl, _, h2, h3⟩ := R.lst e h1
        obtain ⟨rfl, _⟩ := ints_of e2 h3
        refine cr_sortedI pins s σ H _ us Q I r ⟨a, ns, rfl, SqL.of h2, fun ns' p hp hs hn => ?_⟩
        obtain rfl := sort_uniq ns' (sortI ns) (hp.trans (sortI_perm ns).symm) hs (sortI_sorted ns)
        exact P.new R hn ⟨_, upd_same, ints_vr _⟩ (.ref (len_new R p))
      · exact P.elim
    · exact P.elim
  · exact P.elim
theorem fn_sum (g : XG G X) (hc : X.calm = true) : CallR X (.builtin "sum") (rFn G (bfn .sum)) := by
  rintro pins s σ H xs us Q I r ⟨W, j, hm, ms, R, l, P⟩
  simp only [bfn] at P
  split at P
  · obtain ⟨x, rfl, h1⟩ := VRs.one l
    split at P
    · rename_i n vs e
      split at P
      · rename_i ns e2
        obtain ⟨a, ys, rfl, _, h2, h3⟩ := R.lst e h1
        obtain ⟨rfl, _⟩ := ints_of e2 h3
        exact cr_sum hc pins s σ H _ us Q I r ⟨a, ns, rfl, SqL.of h2, P.ok R (.int _)⟩
      · exact P.elim
    · exact P.elim
  · exact P.elim
theorem fn_len (g : XG G X) : CallR X (.builtin "len") (rFn G (bfn .len)) := by
  rintro pins s σ H xs us Q I r ⟨W, j, hm, ms, R, l, P⟩
  simp only [bfn] at P
  split at P
  · split at P
    · rename_i hz
      obtain ⟨x, rfl, h1⟩ := VRs.one l
      cases h1.str_inv
      exact call_len pins s σ H _ us Q I r ⟨_, _, rfl, ⟨hz, rfl⟩, P.ok R (.int _)⟩
    · exact P.elim
  · obtain ⟨x, rfl, h1⟩ := VRs.one l
    split at P
    · rename_i kvs e
      obtain ⟨n, lk, rfl, e2⟩ := dictOf_ref e
      obtain ⟨a, u, rfl, hj, hr, D⟩ := R.dic e2 h1
      have hz := dic_len g I hr D
      cases Vals.ref1 r
      rcases id D with ⟨kvs', rfl, rr⟩ | ⟨xs, rfl, rr⟩
      · refine d_len I hr fun t s' I' => ⟨.int kvs.length, H, I', ⟨t, by rw [Paired.length rr]⟩, P.ok R (.int _)⟩
      · obtain ⟨dd, hx, hs⟩ := raw_of g I hr rr
        have hk : s.heap.DictKeyed (nestedKind X.prog X.w) a (pairsH xs) := ⟨xs, dd, rfl⟩
        have hl : (pairsH xs).length = kvs.length := by rw [pairsH_length, Paired.length rr]
        refine PyProof.Rows.call_len_slot (n := (pairsH xs).length) hk.typeIs F.slot_dict_len (fun Q' hq => len_keyed hs hk hq) (by omega) (by rw [sizeLine_eq] at hz; omega) ?_
        exact ⟨.int kvs.length, H, I.tok _, ⟨_, by rw [hl]⟩, P.ok R (.int _)⟩
    · split at P
      · rename_i vs e
        obtain ⟨a, ys, rfl, h2, h3⟩ := seq_of R e h1
        exact call_len_seq pins s σ H _ us Q I r ⟨a, ys, rfl, by rw [g.K]; exact h2, by rw [← h3.length]; exact P.ok R (.int _)⟩
      · exact P.elim
  · exact P.elim
end
end Mi
/-! MS5: methods of lists and dicts. -/
namespace Mi
open PySem PySem.Spec PyProof.Rows L2

def bmName : BM → Str
  | .append => "append"
  | .extend => "extend"
  | .pop0 => "pop"
  | .popAt => "pop"
  | .remove => "remove"
  | .clear => "clear"
  | .dpop2 => "pop"
  | .index => "index"
  | .join => "join"
  | .split => "split"
def kindT : Nat → String
  | 0 => "list"
  | 1 => "dict"
  | _ => "str"
def bmId : BM → Nat → String
  | .append, _ => "list.append"
  | .extend, _ => "list.extend"
  | .pop0, _ => "list.pop"
  | .popAt, _ => "list.pop"
  | .remove, _ => "list.remove"
  | .clear, 0 => "list.clear"
  | .clear, _ => "dict.clear"
  | .dpop2, _ => "dict.pop"
  | .index, _ => "list.index"
  | .join, _ => "str.join"
  | .split, _ => "str.split"
/-- what the library knows of the method -/
theorem bm_facts {b : BM} {k : Nat} (h : bmFit b k = true) : PlainAttrs (kindT k) ∧ Slot (kindT k) (bmName b) (bmId b k) ∧ typeOf (.builtin (bmId b k)) = pure (.type "method_descriptor") := by
  cases b with
  | append => match k, h with | 0, _ => exact ⟨F.plainAttrs_list, F.slot_list_append, F.type_list_append⟩
  | extend => match k, h with | 0, _ => exact ⟨F.plainAttrs_list, F.slot_list_extend, F.type_list_extend⟩
  | popAt => match k, h with | 0, _ => exact ⟨F.plainAttrs_list, F.slot_list_pop, F.type_list_pop⟩
  | remove => match k, h with | 0, _ => exact ⟨F.plainAttrs_list, F.slot_list_remove, F.type_list_remove⟩
  | clear => match k, h with
    | 0, _ => exact ⟨F.plainAttrs_list, F.slot_list_clear, F.type_list_clear⟩
    | 1, _ => exact ⟨F.plainAttrs_dict, F.slot_dict_clear, F.type_dict_clear⟩
  | dpop2 => match k, h with | 1, _ => exact ⟨F.plainAttrs_dict, F.slot_dict_pop, F.type_dict_pop⟩
  | _ => simp [bmFit] at h
section
variable {X : Cx} {G : Glb} {pins : List (Addr × Obj)} {σ : L2.St} {H : Hp} {s : Shared} {j : List Addr}
theorem kind_is (g : XG G X) (I : Inv X pins σ H s) {hm : MH} (R : RH G j H hm) {m : MV} {x : V} {v : Value} {k : Nat} (hk : kindB hm m = some k) (r : VR G j H m x) (rx : RelV x v) :
    s.TypeIs v (kindT k) ∧ ∀ a, v = .ref a → ∃ ob, s.heap.get? a = some ob ∧ ob.dict = none := by
  cases m with
  | ref n =>
    simp only [kindB] at hk
    split at hk
    · rename_i vs e
      cases hk
      obtain ⟨a, xs, rfl, _, h1, _⟩ := R.lst e r
      exact tyV_is I rx (show tyV X.K "list" (.ref a) H from .inl ⟨rfl, xs, SqL.of h1⟩)
    · rename_i lk kvs e
      cases hk
      obtain ⟨a, u, rfl, _, hr, D⟩ := R.dic e r
      obtain rfl : v = Value.ref a := rx
      refine ⟨dic_type g I hr D, fun b eb => ?_⟩
      cases eb
      rcases D with ⟨kvs', rfl, r⟩ | ⟨xs, rfl, r⟩
      · obtain ⟨_, _, vs, _, o, _, _, h1, h2, _⟩ := dk_rd I.hok hr
        exact ⟨o, h1, h2.2.1⟩
      · obtain ⟨⟨o, _, _, h1, h2, _⟩, _⟩ := raw_of g I hr r
        exact ⟨o, h1, h2.2.1⟩
    · cases hk
  | str z =>
    cases hk
    cases r
    exact tyV_is I rx (show tyV X.K "str" (.str z) H from rfl)
  | _ => cases hk
/-- what a method does, by values -/
theorem bm_call (g : XG G X) (hu : X.A.units + 65 < cLine) (I : Inv X pins σ H s) {hm : MH} (R : RH G j H hm) {b : BM} {k : Nat} {m : MV} {ms : List MV} {x : V} {xs : List V} {v : Value} {us : List Value} {Q : VK} {W : Value → Option Addr → Hp → Prop}
    (hk : kindB hm m = some k) (hf : bmFit b k = true) (r : VR G j H m x) (rs : VRs G j H ms xs) (rx : RelV x v) (rxs : Vals xs us) (P : PostV G j H W (bmeth b m ms hm) Q) :
    wpAny (model X.prog X.w) X.A (call (.builtin (bmId b k)) (v :: us)) (EP X pins σ Q) X.xe s := by
  unfold bmeth at P
  split at P
  · rename_i n
    split at P
    · rename_i zs e
      have hk0 : k = 0 := by simp only [kindB, e] at hk; exact (Option.some.inj hk).symm
      subst hk0
      obtain ⟨a, ys, rfl, hj, h1, h2⟩ := R.lst e r
      split at P
      · -- append
        rename_i y
        split at P
        · rename_i hz
          obtain ⟨w, rfl, hw⟩ := VRs.one rs
          have f := fut_set (j := j) (u := .lst (ys ++ [w])) h1 (fun _ z => (nomatch z)) (fun _ _ z => (nomatch z))
          exact mt_append pins s σ H _ _ v us Q I rx rxs ⟨a, ys, w, rfl, rfl, h1, by rw [← h2.length]; exact hz, P.set R hj h1 (fun _ z => (nomatch z)) (fun _ _ z => (nomatch z)) ⟨_, upd_same, (h2.snoc hw).mono f⟩ .non⟩
        · exact P.elim
      · -- extend
        rename_i mm
        split at P
        · rename_i ws e2
          split at P
          · rename_i hz
            obtain ⟨w, rfl, hw⟩ := VRs.one rs
            obtain ⟨c, qs, rfl, _, h3, h4⟩ := R.lst e2 hw
            have f := fut_set (j := j) (u := .lst (ys ++ qs)) h1 (fun _ z => (nomatch z)) (fun _ _ z => (nomatch z))
            exact mt_extend pins s σ H _ _ v us Q I rx rxs ⟨a, c, ys, qs, rfl, rfl, h1, h3, by rw [← h2.length, ← h4.length]; exact hz, P.set R hj h1 (fun _ z => (nomatch z)) (fun _ _ z => (nomatch z)) ⟨_, upd_same, (h2.append h4).mono f⟩ .non⟩
          · exact P.elim
        · exact P.elim
      · -- pop(i)
        rename_i i
        split at P
        · rename_i hz
          split at P
          · rename_i p e2
            split at P
            · rename_i y e3
              obtain ⟨w, rfl, hw⟩ := VRs.one rs
              cases hw.int_inv
              obtain ⟨w, hw1, hw2⟩ := h2.get e3
              have hix : seqIndex? i ys.length = some p := by rw [← h2.length]; exact (ixN_seq e2).1
              have f := fut_set (j := j) (u := .lst (ys.eraseIdx p)) h1 (fun _ z => (nomatch z)) (fun _ _ z => (nomatch z))
              exact mt_popAt pins s σ H _ _ v us Q I rx rxs ⟨a, ys, i, p, w, rfl, rfl, h1, hz.1, hz.2, hix, hw1, P.set R hj h1 (fun _ z => (nomatch z)) (fun _ _ z => (nomatch z)) ⟨_, upd_same, (h2.eraseIdx p).mono f⟩ (hw2.mono f)⟩
            · exact P.elim
          · exact P.elim
        · exact P.elim
      · -- clear
        cases rs
        have f := fut_set (j := j) (u := .lst []) h1 (fun _ z => (nomatch z)) (fun _ _ z => (nomatch z))
        exact mt_clear pins s σ H _ _ v us Q I rx rxs ⟨a, ys, rfl, rfl, h1, P.set R hj h1 (fun _ z => (nomatch z)) (fun _ _ z => (nomatch z)) ⟨_, upd_same, .nil⟩ .non⟩
      · -- remove
        rename_i i
        split at P
        · rename_i ns e2
          split at P
          · rename_i hz
            obtain ⟨w, rfl, hw⟩ := VRs.one rs
            cases hw.int_inv
            obtain ⟨rfl, rfl⟩ := ints_of e2 h2
            refine mt_remove pins s σ H _ _ v us Q I rx rxs ⟨a, ns, i, ns.idxOf i, rfl, rfl, h1, ?_, fun m hm he => ?_, P.set R hj h1 (fun _ z => (nomatch z)) (fun _ _ z => (nomatch z)) ⟨_, upd_same, ints_vr _⟩ .non⟩
            · have hl : ns.idxOf i < ns.length := List.idxOf_lt_length_iff.mpr hz
              rw [List.getElem?_eq_getElem hl, List.getElem_idxOf hl]
            · obtain ⟨h3, h4⟩ := List.getElem?_eq_some_iff.mp he
              have h5 := List.not_of_lt_findIdx (p := (· == i)) (xs := ns) hm
              rw [h4] at h5
              simp at h5
          · exact P.elim
        · exact P.elim
      · exact P.elim
    · rename_i kvs e
      have hk1 : k = 1 := by simp only [kindB, e] at hk; exact (Option.some.inj hk).symm
      subst hk1
      obtain ⟨a, rfl, hj⟩ := r.ref_inv
      obtain ⟨o, ho, D⟩ := R.ob n _ a e hj
      obtain rfl : v = Value.ref a := rx
      have mu : Mut (H a) := by rw [ho]; exact mutD D
      have hz := dic_len g I (.inl ho) D
      have fin : ∀ {kvs' : List (MV × MV)} {H' : Hp} {s' : Shared} {o' : HO} {mr : MV} {vr : V} {w : Value}, H' = upd H a o' → Inv X pins σ H' s' → DR G j H' a kvs' o' → VR G j H mr vr → RelV vr w → PostV G j H W (.ok mr (hm.set n (.dic false kvs'))) Q → EP X pins σ Q w s' := by
        rintro kvs' H' s' o' mr vr w rfl I' D' hv hw P'
        have f := fut_set (j := j) (u := o') ho (notTupD D).1 (notTupD D).2
        exact ⟨vr, _, I', hw, P' _ _ _ f (R.set hj f ⟨o', upd_same, D'⟩) (hv.mono f)⟩
      split at P
      · -- clear
        cases rs
        cases rxs
        rcases id D with ⟨kvs', rfl, rr⟩ | ⟨xs, rfl, rr⟩
        · refine d_clear I ho fun s' I' => fin (o' := .dK []) (vr := .non) rfl I' (.inl ⟨_, rfl, .nil⟩) .non rfl P
        · obtain ⟨dd, hx, hs⟩ := raw_of g I (.inl ho) rr
          have hkd : s.heap.DictKeyed (nestedKind X.prog X.w) a (pairsH xs) := ⟨xs, dd, rfl⟩
          refine clear_keyed (hsz := by rw [pairsH_length]; exact hx) hkd fun h' dd' hs' => ?_
          obtain ⟨xs', dd', ex⟩ := dd'
          have e0 : xs' = [] := by
            cases xs' with
            | nil => rfl
            | cons y ys => simp [pairsH] at ex
          subst e0
          have he : ∃ q, h'.get? a = some q := let ⟨q, _, _, hq, _⟩ := dd'; ⟨q, hq⟩
          exact fin (o' := rawN G a []) (vr := .non) rfl (d_write (t' := s.toks) I mu hs' he (raw_new g (Nat.zero_le _) hs dd')) (.inr ⟨[], rfl, .nil⟩) .non rfl P
      · -- pop(k, d)
        rename_i key dflt
        obtain ⟨y, z, rfl, hy, hz'⟩ := VRs.two rs
        split at P
        · rename_i hf
          have hok := hf
          simp only [keyFits, Bool.and_eq_true] at hok
          obtain ⟨uy, uz, rfl, ry, rz⟩ := Vals.two rxs
          rcases okKey_cases hok.1 with ⟨kk, rfl⟩ | ⟨ks, nk, rfl, hn, hd⟩
          · cases keyV_of hy
            rcases id D with ⟨kvs', rfl, rr⟩ | ⟨xs, rfl, rr⟩
            · have q := krow_get rr kk
              split at P
              · rename_i w e2
                rw [e2] at q
                obtain ⟨vw, e3, hw⟩ := q
                refine d_pop I ho ry e3 (.inr ⟨uz, rfl⟩) fun w' s' I' rw' => fin (o' := .dK (dropK kvs' kk)) rfl I' (.inl ⟨_, rfl, ?_⟩) hw rw' P
                exact krow_drop (Paired.mapP rr fun _ _ w => w.mono (fut_set ho (notTupD D).1 (notTupD D).2)) kk
              · rename_i e2
                rw [e2] at q
                exact d_popD I ho ry q fun s' I' => ⟨z, H, I', rz, P.ok R hz'⟩
            · obtain ⟨rfl, rfl⟩ := fits_dn hf rr
              obtain ⟨dd, hs⟩ := mix_empty g I (.inl ho)
              have e2 : dget ([] : List (MV × MV)) (keyMV kk) = none := rfl
              rw [e2] at P
              have hp : (keyPart uy).isSome = true := by
                cases kk with
                | inl i => obtain ⟨t, q⟩ := (show ∃ t, uy = Value.int i t from ry); subst q; rfl
                | inr x => obtain ⟨t, q⟩ := (show ∃ t, uy = Value.str x t from ry); subst q; rfl
              exact call_meetsIn PySem.F.slot_dict_pop dd.typeIs PySem.F.entry_dict_pop (PySem.F.args_dict_pop_3 _ _ _) (meets_dict_pop_default (mixKind X.prog X.w) a (kV_is ry) hs hp uz) ⟨[], dd, rfl, ⟨z, H, I.tok _, rz, P.ok R hz'⟩⟩
          · obtain ⟨xs, dd, hs, rr⟩ := nest_of g I (.inl ho) D hf hn
            obtain ⟨c, zs, rfl, _, _⟩ := hy.tup_inv
            obtain rfl : uy = Value.ref c := ry
            have hx : xs.length ≤ sizeLine := by rw [← Paired.length rr]; exact hz
            have q := nrow_get rr hn
            split at P
            · rename_i w e2
              rw [e2] at q
              obtain ⟨bb, uw, vw, e3, hw1, hw2⟩ := q
              refine call_pop_heap (hsz := hx) (knd := nestedKind X.prog X.w) (.inr ⟨uz, rfl⟩) (PySem.F.args_dict_pop_3 _ _ _) (show X.A.units + 1 + 8 < cLine by omega) ⟨nkey_is g I _ _ _ _ hn hy rfl, hd⟩ hs dd e3 fun h' dd' hs' => ?_
              have he : ∃ q, h'.get? a = some q := let ⟨q, _, _, hq, _⟩ := dd'; ⟨q, hq⟩
              have hl' : (withoutH xs nk).length ≤ sizeLine := Nat.le_trans (List.length_filter_le _ _) hx
              refine fin (o' := rawN G a (withoutH xs nk)) rfl (d_write I mu hs' he (raw_new g hl' hs dd')) (.inr ⟨_, rfl, ?_⟩) hw2 hw1 P
              exact nrow_drop (Paired.mapP rr fun _ _ w => w.mono (fut_set ho (notTupD D).1 (notTupD D).2)) hn
            · rename_i e2
              rw [e2] at q
              exact call_pop_default_heap (hsz := hx) (knd := nestedKind X.prog X.w) (show X.A.units + 1 + 8 < cLine by omega) ⟨nkey_is g I _ _ _ _ hn hy rfl, hd⟩ hs dd q fun tk => ⟨z, H, I.tok _, rz, P.ok R hz'⟩
        · exact P.elim
      · exact P.elim
    · exact P.elim
  · exact P.elim
end
end Mi
/-! MS6: expressions, construct by construct. -/
namespace Mi
open PySem PySem.Spec PyProof.Rows L2

theorem PE.weak {X : Cx} {e : Expr} {t t' : TE} (h : PE X e t) (w : ∀ σ H Q, t' σ H Q → t σ H Q) : PE X e t' := ⟨fun pins s σ H Q I q => h.run pins s σ H Q I (w σ H Q q)⟩
theorem PT.weak {X : Cx} {e : Expr} {t t' : TT} (h : PT X e t) (w : ∀ σ H Q, t' σ H Q → t σ H Q) : PT X e t' := ⟨fun pins s σ H Q I q => h.run pins s σ H Q I (w σ H Q q)⟩
theorem PW.weak {X : Cx} {e : Expr} {t t' : TT} (h : PW X e t) (w : ∀ σ H Q, t' σ H Q → t σ H Q) : PW X e t' := ⟨fun wh pins s σ H Q I q => h.run wh pins s σ H Q I (w σ H Q q)⟩
theorem PA.weak {X : Cx} {e : List Expr} {t t' : TA} (h : PA X e t) (w : ∀ σ H Q, t' σ H Q → t σ H Q) : PA X e t' := ⟨fun pos pins s σ H Q I q => h.run pos pins s σ H Q I (w σ H Q q)⟩
theorem PS.weak {X : Cx} {e : Stmt} {t t' : TS} (h : PS X e t) (w : ∀ D σ H, t' D σ H → t D σ H) : PS X e t' := ⟨fun pins s σ H D I q => h.run pins s σ H D I (w D σ H q)⟩
theorem PSs.weak {X : Cx} {e : List Stmt} {t t' : TS} (h : PSs X e t) (w : ∀ D σ H, t' D σ H → t D σ H) : PSs X e t' := ⟨fun pins s σ H D I q => h.run pins s σ H D I (w D σ H q)⟩
theorem PO.weak {X : Cx} {e : Option Expr} {t t' : TO} (h : PO X e t) (w : ∀ σ H Q, t' σ H Q → t σ H Q) : PO X e t' := ⟨fun pins s σ H Q I q => h.run pins s σ H Q I (w σ H Q q)⟩

/-! ### readings by the mini meaning -/
section
variable (G : Glb) (xc : Xc) (W : WX) (c : Cfg)
def tX {α β : Type} (Rel : List Addr → Hp → α → β → Prop) (f : MEnv → MH → R α) : L2.St → Hp → (β → Hp → Prop) → Prop := fun σ H Q =>
  ∃ j ρ hm, RE G j H xc ρ σ ∧ RH G j H hm ∧ Post G Rel j H (fun cls d H' => W cls d σ H') (f ρ hm) Q
abbrev tE (e : ME) : TE := tX G xc W (VR G) (xE c e)
abbrev tEs (es : MEs) : TA := tX G xc W (VRs G) (xEs c es)
abbrev tT (e : ME) : TT := tX G xc W (fun _ _ a b => a = b) (xT c e)
abbrev tO (o : MO2) : TO := tX G xc W (fun _ _ a b => a = b) (xO c o)
end
section
variable {G : Glb} {xc : Xc} {W : WX} {c : Cfg}
/-- the first part of a meaning in a row -/
theorem tX.bind {α β γ δ : Type} {Rel : List Addr → Hp → α → β → Prop} {Rel' : List Addr → Hp → γ → δ → Prop} {f : MEnv → MH → R α} {k : MEnv → α → MH → R γ} {σ : L2.St} {H : Hp} {Q : δ → Hp → Prop} {Q' : β → Hp → Prop}
    (h : tX G xc W Rel' (fun ρ h => (f ρ h).bind (k ρ)) σ H Q)
    (w : ∀ (j : List Addr) (ρ : MEnv) (hm : MH) (a : α) (b : β) (H1 : Hp), RE G j H1 xc ρ σ → RH G j H1 hm → Rel j H1 a b → Post G Rel' j H1 (fun cls d H' => W cls d σ H') (k ρ a hm) Q → Q' b H1) : tX G xc W Rel f σ H Q' := by
  obtain ⟨j, ρ, hm, re, rh, P⟩ := h
  exact ⟨j, ρ, hm, re, rh, P.bind.mono fun b H1 ⟨j1, hm1, a, f1, rh1, r1, P1⟩ => w j1 ρ hm1 a b H1 (re.mono f1) rh1 r1 P1⟩
theorem tX.of {α β : Type} {Rel : List Addr → Hp → α → β → Prop} {f f' : MEnv → MH → R α} {σ : L2.St} {H : Hp} {Q : β → Hp → Prop} (h : tX G xc W Rel f σ H Q) (he : ∀ ρ hm, f ρ hm = f' ρ hm) : tX G xc W Rel f' σ H Q := by
  obtain ⟨j, ρ, hm, re, rh, P⟩ := h
  exact ⟨j, ρ, hm, re, rh, by rw [← he]; exact P⟩
/-- the state behind another part -/
theorem tX.at {α β : Type} {Rel : List Addr → Hp → α → β → Prop} {f : MEnv → MH → R α} {j : List Addr} {ρ : MEnv} {hm : MH} {σ : L2.St} {H : Hp} {Q : β → Hp → Prop} (re : RE G j H xc ρ σ) (rh : RH G j H hm)
    (P : Post G Rel j H (fun cls d H' => W cls d σ H') (f ρ hm) Q) : tX G xc W Rel f σ H Q := ⟨j, ρ, hm, re, rh, P⟩

/-- the surroundings of a piece of text: level k, names by slot, scope, whether calls and raises are free -/
structure Sur (G : Glb) (k : Nat) (N : List Str) (sc : Scope) (cm : Bool) (X : Cx) : Prop where
  g : XG G X
  ns : X.N = N
  nd : N.Nodup
  sc : X.env.scope = sc
  hu : X.A.units + 65 < cLine
  calm : cm = true → X.calm = true
  room : cm = true → Room (k + 1) X.A

def visB (sc : Scope) (x : Str) : Bool := match sc.names.lookup x with
  | some .local => true
  | some .cell => true
  | some .free => true
  | _ => false
theorem vis_of {sc : Scope} {x : Str} (h : visB sc x = true) : Vis sc x := by
  unfold visB at h
  split at h
  · exact .inl ‹_›
  · exact .inr (.inl ‹_›)
  · exact .inr (.inr ‹_›)
  · cases h
def plainName (x : Str) : Bool := !(x == ("__debug__" : Str)) && !(x == ("__classdict__" : Str)) && !(x == ("__name__" : Str))
theorem plainName_of {x : Str} (h : plainName x = true) : (x == ("__debug__" : Str)) = false ∧ (x == ("__classdict__" : Str)) = false ∧ x ≠ "__name__" := by
  unfold plainName at h
  simp only [Bool.and_eq_true, Bool.not_eq_true'] at h
  exact ⟨h.1.1, h.1.2, beq_eq_false_iff_ne.mp h.2⟩
def glB (sc : Scope) (x : Str) : Bool := (match sc.names.lookup x with
  | some .globalImplicit => true
  | _ => false) && plainName x
theorem gl_of {X : Cx} {sc : Scope} {x : Str} (e : X.env.scope = sc) (h : glB sc x = true) : Gl X x := by
  unfold glB at h
  rw [Bool.and_eq_true] at h
  have h1 := h.1
  show X.env.scope.names.lookup x = some .globalImplicit
  rw [e]
  split at h1
  · assumption
  · cases h1

variable {k : Nat} {N : List Str} {sc : Scope} {cm : Bool} {X : Cx}
/-! ### names and constants -/
theorem s_var {i : Nat} {x : Str} {pos : Pos} (C : Sur G k N sc cm X) (hi : N[i]? = some x) (hv : visB sc x = true) (hp : plainName x = true) : PE X (.Name x pos) (tE G xc W c (.var i)) := by
  obtain ⟨h1, h2, _⟩ := plainName_of hp
  refine PE.weak (pe_var (i := i) (by rw [C.ns]; exact hi) (by rw [C.sc]; exact vis_of hv) h1 h2) fun σ H Q h => ?_
  obtain ⟨j, ρ, hm, re, rh, P⟩ := h
  simp only [xE] at P
  split at P
  · exact P.elim
  · rename_i v hne e
    rcases re.at_ i v e with ⟨w, h1, h2⟩ | ⟨a, cc, vs, _, h2, _⟩
    · exact ⟨w, h1, P.ok rh h2⟩
    · exact absurd h2 (hne _ _)
  · exact P.elim
theorem s_lit {e : Expr} {me : ME} {m : MV} {v : V} (h : PE X e (tC v)) (he : ∀ σ hm, xE c me σ hm = .ok m hm) (r : ∀ j H, VR G j H m v) : PE X e (tE G xc W c me) := by
  refine PE.weak h fun σ H Q h => ?_
  obtain ⟨j, ρ, hm, re, rh, P⟩ := h
  rw [he] at P
  exact P.ok rh (r _ _)
/-! ### operators -/
theorem s_two {e : Expr} {me ma mb : ME} {f : MV → MV → MH → R MV} (h : PE X e (tOp (rTwo G f) (tE G xc W c ma) (tE G xc W c mb)))
    (he : ∀ ρ hm, xE c me ρ hm = (xE c ma ρ hm).bind fun v h => (xE c mb ρ h).bind fun w h => f v w h) : PE X e (tE G xc W c me) := by
  refine PE.weak h fun σ H Q h => ?_
  have h : tX G xc W (VR G) (fun ρ hm => (xE c ma ρ hm).bind fun v h => (xE c mb ρ h).bind fun w h => f v w h) σ H Q := by
    obtain ⟨j, ρ, hm, re, rh, P⟩ := h
    rw [he] at P
    exact ⟨j, ρ, hm, re, rh, P⟩
  refine h.bind (k := fun ρ v h => (xE c mb ρ h).bind fun w h => f v w h) fun j ρ hm v x H1 re rh r1 P => ?_
  refine ⟨j, ρ, hm, re, rh, P.bind.mono fun y H2 ⟨j2, hm2, w, f2, rh2, r2, P2⟩ => ?_⟩
  exact ⟨_, j2, hm2, v, w, rh2, r1.mono f2, r2, P2⟩
theorem s_bin {a b : Expr} {op : Operator} {pos : Pos} {ma mb : ME} (C : Sur G k N sc cm X) (ha : PE X a (tE G xc W c ma)) (hb : PE X b (tE G xc W c mb)) : PE X (.BinOp a op b pos) (tE G xc W c (.bin op ma mb)) :=
  s_two (pe_op (bin_ok C.g op) ha hb) fun _ _ => by simp only [xE]
theorem s_cmp {a b : Expr} {op : CmpOp} {pos : Pos} {ma mb : ME} (C : Sur G k N sc cm X) (ha : PE X a (tE G xc W c ma)) (hb : PE X b (tE G xc W c mb)) (hm : behindInMarks op b = false) : PE X (.Compare a [op] [b] pos) (tE G xc W c (.cmp op ma mb)) :=
  s_two (pe_cmpR (cmp_ok C.g C.hu op) ha hb hm) fun _ _ => by simp only [xE]
theorem s_idx {a b : Expr} {pos : Pos} {ma mb : ME} (C : Sur G k N sc cm X) (ha : PE X a (tE G xc W c ma)) (hb : PE X b (tE G xc W c mb)) (hs : PlainIx b) : PE X (.Subscript a b pos) (tE G xc W c (.idx ma mb)) :=
  s_two (pe_ix (ix_ok C.g C.hu) ha hb hs) fun _ _ => by simp only [xE]
theorem s_neg {a : Expr} {pos : Pos} {ma : ME} (ha : PE X a (tE G xc W c ma)) : PE X (.UnaryOp .USub a pos) (tE G xc W c (.neg ma)) := by
  refine PE.weak (pe_un un_neg ha) fun σ H Q h => ?_
  have h : tX G xc W (VR G) (fun ρ hm => (xE c ma ρ hm).bind fun v h => (match v with
    | .int i => .ok (.int (-i)) h
    | _ => .bad)) σ H Q := h.of fun _ _ => by simp only [xE] <;> rfl
  refine h.bind (k := fun ρ v h => _) fun j ρ hm v x H1 re rh r1 P => ?_
  split at P
  · cases r1.int_inv
    exact ⟨_, rfl, P.ok rh (.int _)⟩
  · exact P.elim
/-- the truth of a value -/
theorem tru_of (g : XG G X) {j : List Addr} {H : Hp} {hm : MH} (rh : RH G j H hm) {m : MV} {x : V} {b : Bool} (h : truth m hm = some b) (r : VR G j H m x) : TruV X.K x H b := by
  unfold truth at h
  split at h
  · cases h
    cases r.bl_inv
    rfl
  · split at h
    · rename_i n vs e
      cases h
      obtain ⟨a, xs, rfl, _, h1, h2⟩ := rh.lst e r
      exact .inl ⟨xs, SqL.of h1, by rw [h2.isEmpty]⟩
    · cases h
  · cases h
theorem s_not {a : Expr} {pos : Pos} {ma : ME} (C : Sur G k N sc cm X) (ha : PE X a (tE G xc W c ma)) : PE X (.UnaryOp .Not a pos) (tE G xc W c (.not ma)) := by
  refine PE.weak (pe_notT ha) fun σ H Q h => ?_
  have h : tX G xc W (VR G) (fun ρ hm => (xE c ma ρ hm).bind fun v h => (match truth v h with
    | some b => .ok (.bl (!b)) h
    | none => .bad)) σ H Q := h.of fun _ _ => by simp only [xE] <;> rfl
  refine h.bind (k := fun ρ v h => _) fun j ρ hm v x H1 re rh r1 P => ?_
  split at P
  · rename_i b e
    exact ⟨b, tru_of C.g rh e r1, P.ok rh (.bl _)⟩
  · exact P.elim
theorem s_and {a b : Expr} {rest : List Expr} {pos : Pos} {ma mb : ME} (ha : PE X a (tE G xc W c ma)) (hb : PE X (.BoolOp .And (b :: rest) pos) (tE G xc W c mb)) : PE X (.BoolOp .And (a :: b :: rest) pos) (tE G xc W c (.and ma mb)) := by
  refine PE.weak (pe_and ha hb) fun σ H Q h => ?_
  have h : tX G xc W (VR G) (fun ρ hm => (xE c ma ρ hm).bind fun v h => (match v with
    | .bl true => xE c mb ρ h
    | .bl false => .ok (.bl false) h
    | _ => .bad)) σ H Q := h.of fun _ _ => by simp only [xE] <;> rfl
  refine h.bind (k := fun ρ v h => _) fun j ρ hm v x H1 re rh r1 P => ?_
  split at P
  · cases r1.bl_inv
    exact ⟨_, rfl, iteT ⟨j, ρ, hm, re, rh, P⟩⟩
  · cases r1.bl_inv
    exact ⟨_, rfl, iteF (P.ok rh (.bl _))⟩
  · exact P.elim
theorem s_or {a b : Expr} {rest : List Expr} {pos : Pos} {ma mb : ME} (ha : PE X a (tE G xc W c ma)) (hb : PE X (.BoolOp .Or (b :: rest) pos) (tE G xc W c mb)) : PE X (.BoolOp .Or (a :: b :: rest) pos) (tE G xc W c (.or ma mb)) := by
  refine PE.weak (pe_or ha hb) fun σ H Q h => ?_
  have h : tX G xc W (VR G) (fun ρ hm => (xE c ma ρ hm).bind fun v h => (match v with
    | .bl true => .ok (.bl true) h
    | .bl false => xE c mb ρ h
    | _ => .bad)) σ H Q := h.of fun _ _ => by simp only [xE] <;> rfl
  refine h.bind (k := fun ρ v h => _) fun j ρ hm v x H1 re rh r1 P => ?_
  split at P
  · cases r1.bl_inv
    exact ⟨_, rfl, iteT (P.ok rh (.bl _))⟩
  · cases r1.bl_inv
    exact ⟨_, rfl, iteF ⟨j, ρ, hm, re, rh, P⟩⟩
  · exact P.elim
theorem s_ite {t a b : Expr} {pos : Pos} {mt ma mb : ME} (ht : PT X t (tT G xc W c mt)) (ha : PE X a (tE G xc W c ma)) (hb : PE X b (tE G xc W c mb)) : PE X (.IfExp t a b pos) (tE G xc W c (.ite mt ma mb)) := by
  refine PE.weak (pe_ifExp ht ha hb) fun σ H Q h => ?_
  have h : tX G xc W (VR G) (fun ρ hm => (xT c mt ρ hm).bind fun b h => (match b with
    | true => xE c ma ρ h
    | false => xE c mb ρ h)) σ H Q := by
    obtain ⟨j, ρ, hm, re, rh, P⟩ := h
    refine ⟨j, ρ, hm, re, rh, ?_⟩
    simp only [xE] at P
    simp only [xT]
    cases e : xE c mt ρ hm with
    | ok v h =>
      simp only [e, R.bind] at P ⊢
      cases e2 : truth v h with
      | none => simp only [e2] at P; exact P.elim
      | some b => cases b <;> (simp only [e2] at P ⊢; exact P)
    | exc x h => simpa only [e, R.bind] using P
    | bad => simpa only [e, R.bind] using P
  refine h.bind (Rel := fun _ _ a b => a = b) (k := fun ρ v h => _) fun j ρ hm v x H1 re rh r1 P => ?_
  subst r1
  cases v with
  | true => exact iteT ⟨j, ρ, hm, re, rh, P⟩
  | false => exact iteF ⟨j, ρ, hm, re, rh, P⟩
theorem s_cmp2 {a b d : Expr} {op op' : CmpOp} {pos : Pos} {ma mb md : ME} (C : Sur G k N sc cm X) (ha : PE X a (tE G xc W c ma)) (hb : PE X b (tE G xc W c mb)) (hd : PE X d (tE G xc W c md)) (hm : lastMarks [op, op'] [b, d] = false) :
    PE X (.Compare a [op, op'] [b, d] pos) (tE G xc W c (.cmp2 op op' ma mb md)) := by
  refine PE.weak (pe_chain (cmp_ok C.g C.hu op) (cmp_ok C.g C.hu op') ha hb hd hm) fun σ H Q h => ?_
  have h : tX G xc W (VR G) (fun ρ hm => (xE c ma ρ hm).bind fun v h => (xE c mb ρ h).bind fun w h => (cmpop op v w h).bind fun r h => (match r with
    | .bl true => (xE c md ρ h).bind fun u h => cmpop op' w u h
    | .bl false => .ok (.bl false) h
    | _ => .bad)) σ H Q := h.of fun _ _ => by simp only [xE] <;> rfl
  refine h.bind (k := fun ρ v h => (xE c mb ρ h).bind fun w h => (cmpop op v w h).bind fun r h => (match r with
    | .bl true => (xE c md ρ h).bind fun u h => cmpop op' w u h
    | .bl false => .ok (.bl false) h
    | _ => .bad)) fun j ρ hm v x H1 re rh r1 P => ?_
  refine ⟨j, ρ, hm, re, rh, P.bind.mono fun y H2 ⟨j2, hm2, w, f2, rh2, r2, P2⟩ => ?_⟩
  refine ⟨_, j2, hm2, v, w, rh2, r1.mono f2, r2, P2.bind.mono fun z H3 ⟨j3, hm3, r, f3, rh3, r3, P3⟩ => ?_⟩
  split at P3
  · cases r3.bl_inv
    refine ⟨true, rfl, iteT ⟨j3, ρ, hm3, re.mono (f2.trans f3), rh3, P3.bind.mono fun u H4 ⟨j4, hm4, uu, f4, rh4, r4, P4⟩ => ?_⟩⟩
    exact ⟨_, j4, hm4, w, uu, rh4, r2.mono (f3.trans f4), r4, P4⟩
  · cases r3.bl_inv
    exact ⟨false, rfl, iteF (P3.ok rh3 (.bl _))⟩
  · exact P3.elim
end
end Mi
/-! MS7: displays, slices, attributes, calls. -/
namespace Mi
open PySem PySem.Spec PyProof.Rows L2

/-! ### the shapes of the text -/
def baseB : Expr → Bool
  | .Call (.Name _ _) [] [] _ => false
  | _ => true
theorem base_of {o : Expr} {m : Str} {env : Env} {w : Sem Value} (h : baseB o = true) : attributeBase o m env w = w := by
  unfold attributeBase
  split
  · simp [baseB] at h
  · rfl
def starB : Expr → Bool
  | .Starred _ _ => false
  | _ => true
def starsB (es : List Expr) : Bool := es.all starB
theorem star_cons {e : Expr} {es : List Expr} {env : Env} (h : starB e = true) : starEach (e :: es) env = (false, eval e env) :: starEach es env := by
  cases e <;> first | rfl | (simp [starB] at h)
theorem star_any {es : List Expr} {env : Env} {pos : Pos} (h : starsB es = true) : (backTo pos (starEach es env)).any (·.1) = false := by
  induction es with
  | nil => rfl
  | cons e es ih =>
    simp only [starsB, List.all_cons, Bool.and_eq_true] at h
    rw [star_cons h.1]
    show (false || (backTo pos (starEach es env)).any (·.1)) = false
    rw [ih (by simpa [starsB] using h.2)]
    rfl
theorem star_all {es : List Expr} {env : Env} {pos : Pos} (h : starsB es = true) : (backTo pos (starEach es env)).all (fun x => !x.1) = true := by
  have q := star_any (env := env) (pos := pos) h
  rw [List.any_eq_false] at q
  rw [List.all_eq_true]
  intro x hx
  have := q x hx
  cases e : x.1 with
  | true => exact absurd e this
  | false => rfl
def plainIxB : Expr → Bool
  | .Slice _ _ _ _ => false
  | _ => true
theorem plainIx_of {e : Expr} (h : plainIxB e = true) : PlainIx e := by
  intro o i
  cases e <;> first | rfl | (simp [plainIxB] at h)
theorem eval_meth {o : Expr} {m : Str} {apos pos : Pos} {args : List Expr} {env : Env} (hb : baseB o = true) (hs : starsB args = true) (hn : args.length < 29) (hl : (apos.endLine == pos.line) = true) :
    eval (.Call (.Attribute o m apos) args [] pos) env = (do
      let ov ← eval o env
      standAt apos.atName
      let (f, first) ← holding [ov] (getMethod ov m (plainOf o env))
      callWith pos f first (backTo pos (starEach args env)) (backToKw pos (keywordEach [] env))) := by
  rw [arm_eval_Call, base_of hb]
  have hf : methodCallForm (args.length + ([] : List Keyword).length) (backTo pos (starEach args env)) (backToKw pos (keywordEach [] env)) = true := by
    unfold methodCallForm
    rw [star_all hs]
    simp [backToKw, keywordEach]
    omega
  simp only [mcall_line hf hl]
def condP (b : Bool) : Prop := b = true

/-! ### lists of expressions -/
section
variable {G : Glb} {xc : Xc} {W : WX} {c : Cfg} {k : Nat} {N : List Str} {sc : Scope} {cm : Bool} {X : Cx}
theorem s_nil : PA X [] (tEs G xc W c .nil) := by
  refine PA.weak pa_nil fun σ H Q h => ?_
  obtain ⟨j, ρ, hm, re, rh, P⟩ := h
  simp only [xEs] at P
  exact P.ok rh .nil
theorem s_cons {e : Expr} {es : List Expr} {me : ME} {mes : MEs} (hs : starB e = true) (h : PE X e (tE G xc W c me)) (hr : PA X es (tEs G xc W c mes)) : PA X (e :: es) (tEs G xc W c (.cons me mes)) := by
  refine PA.weak (pa_cons h hr (star_cons hs)) fun σ H Q h => ?_
  have h : tX G xc W (VRs G) (fun ρ hm => (xE c me ρ hm).bind fun v h => (xEs c mes ρ h).bind fun vs h => .ok (v :: vs) h) σ H Q := h.of fun _ _ => by simp only [xEs] <;> rfl
  refine h.bind (k := fun ρ v h => (xEs c mes ρ h).bind fun vs h => .ok (v :: vs) h) fun j ρ hm v x H1 re rh r1 P => ?_
  refine ⟨j, ρ, hm, re, rh, P.bind.mono fun xs H2 ⟨j2, hm2, vs, f2, rh2, r2, P2⟩ => ?_⟩
  exact P2.ok rh2 (.cons (r1.mono f2) r2)
theorem xEs_len (c : Cfg) : ∀ (es : MEs) (ρ : MEnv) (hm : MH) (vs : List MV) (h' : MH), xEs c es ρ hm = .ok vs h' → vs.length = es.len
  | .nil, ρ, hm, vs, h', e => by
    simp only [xEs] at e
    cases e
    rfl
  | .cons e es, ρ, hm, vs, h', q => by
    simp only [xEs] at q
    cases e1 : xE c e ρ hm with
    | ok v h1 =>
      simp only [e1, R.bind] at q
      cases e2 : xEs c es ρ h1 with
      | ok ws h2 =>
        simp only [e2] at q
        cases q
        simp [MEs.len, xEs_len c es ρ h1 ws _ e2]
      | exc x h2 => simp only [e2] at q; cases q
      | bad => simp only [e2] at q; cases q
    | exc x h1 => simp only [e1, R.bind] at q; cases q
    | bad => simp only [e1, R.bind] at q; cases q
/-- the values of the arguments, their number known -/
theorem tX.args {γ δ : Type} {Rel' : List Addr → Hp → γ → δ → Prop} {es : MEs} {kk : MEnv → List MV → MH → R γ} {σ : L2.St} {H : Hp} {Q : δ → Hp → Prop} {Q' : List V → Hp → Prop}
    (h : tX G xc W Rel' (fun ρ h => (xEs c es ρ h).bind (kk ρ)) σ H Q)
    (w : ∀ (j : List Addr) (ρ : MEnv) (hm : MH) (a : List MV) (b : List V) (H1 : Hp), RE G j H1 xc ρ σ → RH G j H1 hm → a.length = es.len → VRs G j H1 a b → Post G Rel' j H1 (fun cls d H' => W cls d σ H') (kk ρ a hm) Q → Q' b H1) : tEs G xc W c es σ H Q' := by
  obtain ⟨j, ρ, hm, re, rh, P0⟩ := h
  have P : Post G Rel' j H (fun cls d H' => W cls d σ H') ((xEs c es ρ hm).bind (kk ρ)) Q := P0
  refine ⟨j, ρ, hm, re, rh, ?_⟩
  cases e : xEs c es ρ hm with
  | ok a hm1 =>
    have hl := xEs_len c es ρ hm a hm1 e
    rw [e] at P
    exact fun j1 H1 b f1 rh1 l => w j1 ρ hm1 a b H1 (re.mono f1) rh1 hl l (Post.fut (show Post G Rel' j H _ (kk ρ a hm1) Q from P) f1)
  | exc x h1 => rw [e] at P; exact P
  | bad => rw [e] at P; exact P
theorem s_tup {es : List Expr} {n : Nat} {pos : Pos} {mes : MEs} (hl : mes.len ≤ 1000) (h : PA X es (tEs G xc W c mes)) : PE X (.Tuple es n pos) (tE G xc W c (.tup mes)) := by
  refine PE.weak (pe_tup h) fun σ H Q h => ?_
  have h : tX G xc W (VR G) (fun ρ hm => (xEs c mes ρ hm).bind fun vs h => .ok (.tup vs) h) σ H Q := h.of fun _ _ => by simp only [xE] <;> rfl
  refine h.args (kk := fun ρ vs (h : MH) => R.ok (MV.tup vs) h) fun j ρ hm vs xs H1 re rh hl' r1 P => ?_
  refine ⟨by rw [← r1.length, hl', sizeLine_eq]; omega, fun p hp => ?_⟩
  exact P.off rh hp (.tup (SqT.of upd_same) (r1.mono (fut_new hp)))
theorem s_lst {es : List Expr} {pos : Pos} {mes : MEs} (hl : mes.len ≤ 1000) (h : PA X es (tEs G xc W c mes)) : PE X (.List es pos) (tE G xc W c (.lst mes)) := by
  refine PE.weak (pe_lst h) fun σ H Q h => ?_
  have h : tX G xc W (VR G) (fun ρ hm => (xEs c mes ρ hm).bind fun vs h => .ok (.ref h.length) (h ++ [.lst vs])) σ H Q := h.of fun _ _ => by simp only [xE] <;> rfl
  refine h.args (kk := fun ρ vs (h : MH) => R.ok (MV.ref (List.length h)) (h ++ [MO.lst vs])) fun j ρ hm vs xs H1 re rh hl' r1 P => ?_
  refine ⟨by rw [← r1.length, hl', sizeLine_eq]; omega, fun p hp => ?_⟩
  exact P.new rh hp ⟨_, upd_same, r1.mono (fut_alloc hp)⟩ (.ref (len_new rh p))
theorem s_dic0 {pos : Pos} : PE X (.Dict [] [] pos) (tE G xc W c .dic0) := by
  refine PE.weak pe_dnewK fun σ H Q h p hp => ?_
  obtain ⟨j, ρ, hm, re, rh, P⟩ := h
  simp only [xE] at P
  exact P.new rh hp ⟨_, upd_same, .inl ⟨[], rfl, .nil⟩⟩ (.ref (len_new rh p))
/-! ### slices -/
theorem s_po_none : PO X none (tO G xc W c .none) := by
  refine PO.weak po_none fun σ H Q h => ?_
  obtain ⟨j, ρ, hm, re, rh, P⟩ := h
  simp only [xO] at P
  exact P.ok rh rfl
theorem s_po_some {e : Expr} {me : ME} (h : PE X e (tE G xc W c me)) : PO X (some e) (tO G xc W c (.some me)) := by
  refine PO.weak (po_some h) fun σ H Q h => ?_
  have h : tX G xc W (fun _ _ a b => a = b) (fun ρ hm => (xE c me ρ hm).bind fun v h => (match v with
    | .int i => .ok (some i) h
    | _ => .bad)) σ H Q := h.of fun _ _ => by simp only [xO] <;> rfl
  refine h.bind (k := fun ρ v h => _) fun j ρ hm v x H1 re rh r1 P => ?_
  split at P
  · cases r1.int_inv
    exact ⟨_, rfl, P.ok rh rfl⟩
  · exact P.elim
theorem s_sli {a : Expr} {lo hi : Option Expr} {p2 pos : Pos} {ma : ME} {ml mh : MO2} (C : Sur G k N sc cm X) (ha : PE X a (tE G xc W c ma)) (hl : PO X lo (tO G xc W c ml)) (hh : PO X hi (tO G xc W c mh)) :
    PE X (.Subscript a (.Slice lo hi none p2) pos) (tE G xc W c (.sli ma ml mh)) := by
  refine PE.weak (pe_slice (sl_ok C.g) ha hl hh) fun σ H Q h => ?_
  have h : tX G xc W (VR G) (fun ρ hm => (xE c ma ρ hm).bind fun v h => (xO c ml ρ h).bind fun l h => (xO c mh ρ h).bind fun u h => slice v l u h) σ H Q := h.of fun _ _ => by simp only [xE] <;> rfl
  refine h.bind (k := fun ρ v h => (xO c ml ρ h).bind fun l h => (xO c mh ρ h).bind fun u h => slice v l u h) fun j ρ hm v x H1 re rh r1 P => ?_
  refine ⟨j, ρ, hm, re, rh, P.bind.mono fun l H2 ⟨j2, hm2, l', f2, rh2, r2, P2⟩ => ?_⟩
  subst r2
  refine ⟨j2, ρ, hm2, re.mono f2, rh2, P2.bind.mono fun u H3 ⟨j3, hm3, u', f3, rh3, r3, P3⟩ => ?_⟩
  subst r3
  exact ⟨_, j3, hm3, v, rh3, r1.mono (f2.trans f3), P3⟩
/-! ### attributes -/
theorem frow_get {j : List Addr} {H : Hp} {fs : List (Str × MV)} {fs' : List (Str × V)} (r : Paired (FRow G j H) fs fs') {x : Str} : match fs.lookup x with
    | none => fs'.lookup x = none
    | some m => ∃ v, fs'.lookup x = some v ∧ VR G j H m v := by
  induction r with
  | nil => rfl
  | @cons p q ps qs h t ih =>
    obtain ⟨h1, h2⟩ := h
    obtain ⟨pa, pb⟩ := p
    obtain ⟨qa, qb⟩ := q
    simp only at h1 h2
    subst h1
    by_cases e : x = pa
    · subst e
      simp only [List.lookup, beq_self_eq_true]
      exact ⟨qb, rfl, h2⟩
    · have e' : (x == pa) = false := beq_eq_false_iff_ne.mpr e
      simp only [List.lookup, e']
      exact ih
theorem frow_put {j : List Addr} {H : Hp} {fs : List (Str × MV)} {fs' : List (Str × V)} (r : Paired (FRow G j H) fs fs') (x : Str) {m : MV} {v : V} (h : VR G j H m v) : Paired (FRow G j H) (putFM x m fs) (putF x v fs') := by
  induction r with
  | nil => exact .cons ⟨rfl, h⟩ .nil
  | @cons p q ps qs h0 t ih =>
    obtain ⟨h1, h2⟩ := h0
    obtain ⟨pa, pb⟩ := p
    obtain ⟨qa, qb⟩ := q
    simp only at h1 h2
    subst h1
    unfold putFM putF
    by_cases e : pa = x
    · rw [if_pos e, if_pos e]
      exact .cons ⟨rfl, h⟩ t
    · rw [if_neg e, if_neg e]
      exact .cons ⟨rfl, h2⟩ ih
end
end Mi
/-! MS8: attributes, calls of defs, classes, methods. -/
namespace Mi
open PySem PySem.Spec PyProof.Rows L2

/-- what a def at fuel kk promises -/
def spI (G : Glb) (kk f : Nat) : Sp := fun vs H Q E => vs.length = (G.ps f).length ∧ ∃ j hm ms, RH G j H hm ∧ VRs G j H ms vs ∧ PostV G j H E (callN G.P kk f ms hm) Q
/-- what of the text the defs must have -/
structure DefOk (G : Glb) (i : Nat) (d : FnD) : Prop where
  len : (G.ps i).length = d.np
  kp : PySem.W.keepIn G.K (.ref (G.fa i)) = true
  bd : ∀ n, n ≤ d.np → d.np ≤ n + d.dfl.length → ∃ dvs ds, (∀ j H, VRs G j H (d.dfl.drop (d.dfl.length + n - d.np)) dvs) ∧ Vals dvs ds ∧ Binds G.K (G.fd i) (G.ps i) ds
def FnsAt (G : Glb) (kk : Nat) : Prop := ∀ i d, G.P.fns[i]? = some d → FnOk G.prog G.w G.K G.mg G.base (CX G.prog G.w) (2 * kk) (G.fa i) (G.fd i) (G.ps i) (spI G kk i)
def DefsOk (G : Glb) : Prop := ∀ i d, G.P.fns[i]? = some d → DefOk G i d
theorem fill_fill (d : FnD) (vs : List MV) (h : (d.fill vs).length = d.np) : d.fill (d.fill vs) = d.fill vs := by
  have e : d.fill (d.fill vs) = d.fill vs ++ d.dfl.drop (d.dfl.length + (d.fill vs).length - d.np) := rfl
  rw [e, h, Nat.add_sub_cancel, List.drop_length, List.append_nil]
theorem callN_fill {P : Prog} {kk f : Nat} {d : FnD} {vs : List MV} {hm : MH} (e : P.fns[f]? = some d) (h : (d.fill vs).length = d.np) : callN P kk f (d.fill vs) hm = callN P kk f vs hm := by
  cases kk with
  | zero => rfl
  | succ k =>
    simp only [callN, e]
    rw [fill_fill d vs h]
/-- the number of arguments suits -/
def argsB (P : Prog) (f n : Nat) : Bool := match P.fns[f]? with
  | some d => decide (n ≤ d.np) && decide (d.np ≤ n + d.dfl.length)
  | none => false
theorem args_of {P : Prog} {f n : Nat} (h : argsB P f n = true) : ∃ d, P.fns[f]? = some d ∧ n ≤ d.np ∧ d.np ≤ n + d.dfl.length := by
  unfold argsB at h
  split at h
  · rename_i d e
    simp only [Bool.and_eq_true, decide_eq_true_eq] at h
    exact ⟨d, e, h.1, h.2⟩
  · cases h
section
variable {G : Glb} {xc : Xc} {W : WX} {kk : Nat} {N : List Str} {sc : Scope} {cm : Bool} {X : Cx}
/-- the callee runs, from a caller's state -/
theorem run_call (g : XG G X) (Fs : FnsAt G kk) (Ds : DefsOk G) (hr : Room (2 * kk) X.A) (tk : Takes X W) {f : Nat} {pins : List (Addr × Obj)} {s : Shared} {σ : L2.St} {H : Hp} {Q : VK} {us : List Value} {vs : List V} {j : List Addr} {hm : MH} {ms : List MV}
    (hf : argsB G.P f vs.length = true) (I : Inv X pins σ H s) (r : Vals vs us) (rh : RH G j H hm) (rv : VRs G j H ms vs) (P : PostV G j H (fun cls d H' => W cls d σ H') (callN G.P kk f ms hm) Q) :
    wpAny (model X.prog X.w) X.A (call (.ref (G.fa f)) us) (EP X pins σ Q) X.xe s := by
  obtain ⟨d, e, h1, h2⟩ := args_of hf
  obtain ⟨dvs, ds, rd, rds, bb⟩ := (Ds f d e).bd _ h1 h2
  have hl : ms.length = vs.length := rv.length
  have hfl : (d.fill ms).length = d.np := by
    unfold FnD.fill
    rw [List.length_append, List.length_drop]
    omega
  have hfill : VRs G j H (d.fill ms) (vs ++ dvs) := by
    unfold FnD.fill
    rw [hl]
    exact rv.append (rd j H)
  have F := Fs f d e
  have F' : FnOk X.prog X.w X.K X.mg X.base (CX X.prog X.w) (2 * kk) (G.fa f) (G.fd f) (G.ps f) (spI G kk f) := by
    rw [g.prog, g.w, g.K, g.mg, g.base]
    exact F
  refine run_fnSD (E := WE W) F' hr (by rw [g.K]; exact bb) rds (passAt tk σ) I r ?_
  refine ⟨?_, j, hm, d.fill ms, rh, hfill, ?_⟩
  · rw [← hfill.length, hfl, (Ds f d e).len]
  · rw [callN_fill e hfl]
    exact P
/-- a call's arguments -/
theorem with_args {es : List Expr} {mes : MEs} {f : Value} {first : List Value} {pos : Pos} (g : XG G X) (hs : starsB es = true) (hk : PySem.W.keepIn X.K f = true) (hl : es.length = mes.len) (ha : PA X es (tEs G xc W c mes)) {pins : List (Addr × Obj)} {s : Shared} {σ : L2.St} {H : Hp}
    {Q : Value → Shared → Prop} {Q' : List V → Hp → Prop} (I : Inv X pins σ H s) (h : tEs G xc W c mes σ H Q') (w : ∀ us s1 vs H1, Inv X pins σ H1 s1 → Vals vs us → Q' vs H1 → wpAny (model X.prog X.w) X.A (call f (first ++ us)) Q X.xe s1) :
    wpAny (model X.prog X.w) X.A (callWith pos f first (backTo pos (starEach es X.env)) (backToKw pos (keywordEach [] X.env))) Q X.xe s := by
  cases es with
  | nil =>
    cases mes with
    | nil =>
      obtain ⟨j, ρ, hm, re, rh, P⟩ := h
      simp only [xEs] at P
      exact PySem.W.callWith_K0 I.kIn hk (w [] s [] H I .nil (P.ok rh .nil))
    | cons a b => simp [MEs.len] at hl
  | cons e es =>
    have hs' : starB e = true ∧ starsB es = true := by simpa [starsB] using hs
    exact PySem.W.callWith_K (h₀ := X.base) I.ok.mod.kin hk (thn (ha.run pos pins s σ H _ I h) fun us s1 ⟨vs, H1, I1, r, q⟩ => ⟨I1.kIn, w us s1 vs H1 I1 r q⟩) (star_cons hs'.1) (star_any hs'.2)
/-- f(..) -/
theorem s_call {x : Str} {f : Nat} {p pos : Pos} {es : List Expr} {mes : MEs} (C : Sur G (2 * kk) N sc true X) (Fs : FnsAt G kk) (Ds : DefsOk G) (tk : Takes X W) (hx : G.mg x = some (.ref (G.fa f))) (hg : glB sc x = true) (hs : starsB es = true) (hl : es.length = mes.len)
    (hf : argsB G.P f mes.len = true) (ha : PA X es (tEs G xc W (cfg G.P kk) mes)) : PE X (.Call (.Name x p) es [] pos) (tE G xc W (cfg G.P kk) (.call f mes)) := by
  have hp : plainName x = true := by
    unfold glB at hg
    exact (Bool.and_eq_true _ _ ▸ hg).2
  obtain ⟨h1, h2, _⟩ := plainName_of hp
  obtain ⟨d, e, _, _⟩ := args_of hf
  refine ⟨fun pins s σ H Q I h => ?_⟩
  have h : tX G xc W (VR G) (fun ρ hm => (xEs (cfg G.P kk) mes ρ hm).bind fun vs h => callN G.P kk f vs h) σ H Q := h.of fun _ _ => by simp only [xE]
  refine wpAny_Call_Name_kw (ld_glob I (gl_of C.sc hg) (by rw [C.g.mg]; exact hx) ?_ h1)
  refine with_args (xc := xc) (W := W) (c := cfg G.P kk) (mes := mes) C.g hs (by rw [C.g.K]; exact (Ds f d e).kp) hl ha I (h.args (kk := fun ρ vs h => callN G.P kk f vs h) (Q' := fun vs H1 => ∃ j hm ms, RH G j H1 hm ∧ ms.length = mes.len ∧ VRs G j H1 ms vs ∧ PostV G j H1 (fun cls d H' => W cls d σ H') (callN G.P kk f ms hm) Q)
    fun j ρ hm a b H1 re rh la r P => ⟨j, hm, a, rh, la, r, P⟩) fun us s1 vs H1 I1 r ⟨j, hm, ms, rh, la, rv, P⟩ => ?_
  exact run_call C.g Fs Ds ((C.room rfl).mono (by omega)) tk (by rw [← rv.length, la]; exact hf) I1 r rh rv P
/-- the end of a class's call -/
def mkEnd (n : Nat) (v : MV) (h' : MH) : R MV := match v with
  | .non => .ok (.ref n) h'
  | _ => .bad
theorem run_makeS {CX : CXT} {k : Nat} {f Cl : Addr} {fd : FuncData} {ps : List Str} {sp : Sp} {dvs : List V} {ds : List Value} {E : XK} {pins : List (Addr × Obj)} {σ : L2.St} {H : Hp} {s : Shared} {Q : VK} {us : List Value} {vs : List V} (M : Mk X.K Cl f) (F : FnOk X.prog X.w X.K X.mg X.base CX k f fd ps sp) (hr : Room (k + 1) X.A) (hb : Binds X.K fd ps ds) (hd : Vals dvs ds)
    (hx : PassesAt CX X σ E) (I : Inv X pins σ H s) (r : Vals vs us)
    (h : ∀ x dx, H x = none → H dx = none → dx ≠ x → sp (.ref x :: (vs ++ dvs)) (upd (upd H dx (.own x)) x (.ins Cl dx [])) (fun v H2 => v = .non ∧ Q (.ref x) H2) E) :
    wpAny (model X.prog X.w) X.A (call (.ref Cl) us) (EP X pins σ Q) X.xe s := by
  have hq := h (s.heap.objs.size + 1) s.heap.objs.size (I.hok.fresh (Nat.le_succ _)) (I.hok.fresh (Nat.le_refl _)) (Nat.ne_of_lt (Nat.lt_succ_self _))
  have I2 := Inv.made (C := Cl) I
  have r2 : Vals (V.ref (s.heap.objs.size + 1) :: (vs ++ dvs)) (Value.ref (s.heap.objs.size + 1) :: (us ++ ds)) := .cons rfl (r.append hd)
  have hl : (Value.ref (s.heap.objs.size + 1) :: us ++ ds).length = ps.length := by
    have e := r2.length
    rw [F.len _ _ _ _ hq] at e
    exact e.symm
  refine wpAny_call (make_map (f := f) I.kIn M.makes M.init (beq_iff_eq.mp M.fn) (codeAny_mono (F.run _ X.stack _ _ ⟨Value.ref (s.heap.objs.size + 1) :: us, []⟩ (Value.ref (s.heap.objs.size + 1) :: (us ++ ds)) _ _ E (hr.make Cl us [])
    (I2.env0.make Cl us []) (hb _ (Value.ref (s.heap.objs.size + 1) :: us) I2.kIn hl) r2 hq) fun r s' hq' => ?_))
  cases r with
  | error e => exact hx pins _ _ e s' I2 hq'
  | ok fl =>
    cases fl with
    | ret u =>
      obtain ⟨v, H', I3, rv, ev, q3⟩ := I2.after hq'
      subst ev
      exact ⟨rv, ⟨V.ref (s.heap.objs.size + 1), H', I3, rfl, q3⟩⟩
    | next => exact False.elim hq'
    | brk => exact False.elim hq'
    | cont => exact False.elim hq'
/-- C(..) -/
theorem s_make {x : Str} {k f : Nat} {p pos : Pos} {es : List Expr} {mes : MEs} (C : Sur G (2 * kk) N sc true X) (Fs : FnsAt G kk) (Ds : DefsOk G) (tk : Takes X W) (hx : G.mg x = some (.ref (G.ca k))) (hg : glB sc x = true) (hs : starsB es = true) (hl : es.length = mes.len)
    (hm : G.P.meth k "__init__" = some f) (ow : Own G k) (M : Mk G.K (G.ca k) (G.fa f)) (hf : argsB G.P f (mes.len + 1) = true) (ha : PA X es (tEs G xc W (cfg G.P kk) mes)) : PE X (.Call (.Name x p) es [] pos) (tE G xc W (cfg G.P kk) (.make k mes)) := by
  have hp : plainName x = true := by
    unfold glB at hg
    exact (Bool.and_eq_true _ _ ▸ hg).2
  obtain ⟨h1, h2, _⟩ := plainName_of hp
  obtain ⟨d, e, hn1, hn2⟩ := args_of hf
  refine ⟨fun pins s σ H Q I h => ?_⟩
  have h : tX G xc W (VR G) (fun ρ hm => (xEs (cfg G.P kk) mes ρ hm).bind fun vs h => (callN G.P kk f (MV.ref (List.length h) :: vs) (h ++ [.ins k []])).bind (mkEnd (List.length h))) σ H Q := h.of fun _ _ => by simp only [xE, hm] <;> rfl
  refine wpAny_Call_Name_kw (ld_glob I (gl_of C.sc hg) (by rw [C.g.mg]; exact hx) ?_ h1)
  refine with_args (xc := xc) (W := W) (c := cfg G.P kk) (mes := mes) C.g hs (by rw [C.g.K]; exact M.kp) hl ha I (h.args (kk := fun ρ vs h => (callN G.P kk f (MV.ref (List.length h) :: vs) (h ++ [.ins k []])).bind (mkEnd (List.length h))) (Q' := fun vs H1 => ∃ j hm ms, RH G j H1 hm ∧ ms.length = mes.len ∧ VRs G j H1 ms vs ∧ PostV G j H1 (fun cls d H' => W cls d σ H') ((callN G.P kk f (MV.ref (List.length hm) :: ms) (hm ++ [.ins k []])).bind (mkEnd (List.length hm))) Q)
    fun j ρ hm a b H1 re rh la r P => ⟨j, hm, a, rh, la, r, P⟩) fun us s1 vs H1 I1 r ⟨j, hm, ms, rh, la, rv, P⟩ => ?_
  obtain ⟨dvs, ds, rd, rds, bb⟩ := (Ds f d e).bd _ hn1 hn2
  have F := Fs f d e
  have F' : FnOk X.prog X.w X.K X.mg X.base (CX X.prog X.w) (2 * kk) (G.fa f) (G.fd f) (G.ps f) (spI G kk f) := by
    rw [C.g.prog, C.g.w, C.g.K, C.g.mg, C.g.base]
    exact F
  have M' : Mk X.K (G.ca k) (G.fa f) := by rw [C.g.K]; exact M
  refine run_makeS (E := WE W σ) M' F' (C.room rfl) (by rw [C.g.K]; exact bb) rds (passAt tk σ) I1 r fun x dx hx0 hdx0 hne => ?_
  have hx1 : upd H1 dx (.own x) x = none := by rw [upd_ne (Ne.symm hne)]; exact hx0
  have rh2 := (rh.keep (u := .own x) hdx0).alloc (p := x) (u := .ins (G.ca k) dx []) (o := .ins k []) hx1 ⟨dx, [], upd_same, .nil, ow⟩
  have f2 : Fut j H1 (j ++ [x]) (upd (upd H1 dx (.own x)) x (.ins (G.ca k) dx [])) := (fut_new hdx0).trans (fut_alloc hx1)
  have hlm : (d.fill (MV.ref (List.length hm) :: ms)).length = d.np := by
    unfold FnD.fill
    rw [List.length_append, List.length_drop, List.length_cons]
    omega
  have hjn : (j ++ [x])[List.length hm]? = some x := len_new rh x
  have hfill : VRs G (j ++ [x]) (upd (upd H1 dx (.own x)) x (.ins (G.ca k) dx [])) (d.fill (MV.ref (List.length hm) :: ms)) (.ref x :: (vs ++ dvs)) := by
    unfold FnD.fill
    rw [List.length_cons, la]
    exact .cons (.ref hjn) ((rv.mono f2).append (rd _ _))
  refine ⟨?_, _, _, d.fill (MV.ref (List.length hm) :: ms), rh2, hfill, ?_⟩
  · rw [← hfill.length, hlm, (Ds f d e).len]
  · rw [callN_fill e hlm]
    refine (P.fut f2).bind.mono fun v H3 ⟨j3, hm3, a, f3, rh3, r3, P3⟩ => ?_
    unfold mkEnd at P3
    split at P3
    · refine ⟨r3.non_inv, P3.ok rh3 (.ref (f3.get hjn))⟩
    · exact P3.elim
end
/-! ### methods -/
/-- the classes' records -/
structure ClsOk (G : Glb) : Prop where
  cls : ∀ (c : Nat) (d : ClD), G.P.cls[c]? = some d → d.exc = false → Cls G.K (G.ca c)
  meth : ∀ (c : Nat) (d : ClD) (m : Str) (f : Nat), G.P.cls[c]? = some d → d.exc = false → d.meths.lookup m = some f → Meth G.K (G.ca c) m (G.fa f)
  noat : ∀ (c : Nat) (d : ClD) (x : Str), G.P.cls[c]? = some d → d.exc = false → x ∈ G.T.flds → NoAttr G.K (G.ca c) x
  noexc : ∀ (c : Nat) (d : ClD) (m : Str) (f : Nat), G.P.cls[c]? = some d → d.meths.lookup m = some f → d.exc = false
section
variable {G : Glb} {xc : Xc} {W : WX} {c : Cfg} {kk k' : Nat} {N : List Str} {sc : Scope} {cm : Bool} {X : Cx}
theorem Post.args {γ δ : Type} {Rel' : List Addr → Hp → γ → δ → Prop} {j : List Addr} {H : Hp} {Wp : Value → Option Addr → Hp → Prop} {es : MEs} {kk : List MV → MH → R γ} {ρ : MEnv} {hm : MH} {Q : δ → Hp → Prop} (P : Post G Rel' j H Wp ((xEs c es ρ hm).bind kk) Q) :
    PostL G j H Wp (xEs c es ρ hm) (fun b H1 => ∃ j1 hm1 a, Fut j H j1 H1 ∧ RH G j1 H1 hm1 ∧ a.length = es.len ∧ VRs G j1 H1 a b ∧ Post G Rel' j1 H1 Wp (kk a hm1) Q) := by
  cases e : xEs c es ρ hm with
  | ok a hm1 =>
    have hl := xEs_len c es ρ hm a hm1 e
    rw [e] at P
    exact fun j1 H1 b f1 rh1 l => ⟨j1, hm1, a, f1, rh1, hl, l, Post.fut (show Post G Rel' j H _ (kk a hm1) Q from P) f1⟩
  | exc x h1 => rw [e] at P; exact P
  | bad => rw [e] at P; exact P
/-- the instance at n -/
theorem RH.ins {j : List Addr} {H : Hp} {hm : MH} (r : RH G j H hm) {n k : Nat} {fs : List (Str × MV)} {v : V} (h : hm[n]? = some (.ins k fs)) (hv : VR G j H (.ref n) v) : ∃ a dx fs', v = .ref a ∧ j[n]? = some a ∧ H a = some (.ins (G.ca k) dx fs') ∧ Paired (FRow G j H) fs fs' ∧ Own G k := by
  obtain ⟨a, rfl, hj⟩ := hv.ref_inv
  obtain ⟨dx, fs', h1, h2⟩ := r.ob n _ a h hj
  exact ⟨a, dx, fs', rfl, hj, h1, h2⟩
/-- e.x -/
theorem s_fld {a : Expr} {x : Str} {pos : Pos} {ma : ME} (C : Sur G k' N sc cm X) (co : ClsOk G) (hb : baseB a = true) (hx : G.T.flds.contains x = true) (ha : PE X a (tE G xc W c ma)) : PE X (.Attribute a x pos) (tE G xc W c (.fld ma x)) := by
  refine PE.weak (pe_fld ha (base_of hb)) fun σ H Q h => ?_
  have h : tX G xc W (VR G) (fun ρ hm => (xE c ma ρ hm).bind fun v h => getF v x h) σ H Q := h.of fun _ _ => by simp only [xE]
  refine h.bind (k := fun ρ v h => getF v x h) fun j ρ hm v y H1 re rh r1 P => ?_
  unfold getF at P
  split at P
  · split at P
    · rename_i k fs e
      split at P
      · rename_i w e2
        obtain ⟨p, dx, fs', rfl, hj, h1, h2, d, h3, h4⟩ := rh.ins e r1
        have z := frow_get h2 (x := x)
        rw [e2] at z
        obtain ⟨u, z1, z2⟩ := z
        refine ⟨p, _, dx, fs', u, rfl, h1, ?_, ?_, z1, P.ok rh z2⟩
        · rw [C.g.K]; exact co.cls _ _ h3 h4
        · rw [C.g.K]; exact co.noat _ _ _ h3 h4 (by simpa using hx)
      · exact P.elim
    · exact P.elim
  · exact P.elim
/-- o.m(..) -/
theorem s_meth {o : Expr} {x : Str} {p pos : Pos} {es : List Expr} {mo : ME} {mes : MEs} (C : Sur G (2 * kk) N sc true X) (Fs : FnsAt G kk) (Ds : DefsOk G) (co : ClsOk G) (tk : Takes X W) (hb : baseB o = true) (hs : starsB es = true) (hl : es.length = mes.len) (hn : es.length < 29)
    (hp : (p.endLine == pos.line) = true)
    (hf : ∀ (k : Nat) (d : ClD) f, G.P.cls[k]? = some d → d.meths.lookup x = some f → argsB G.P f (mes.len + 1) = true) (ho : PE X o (tE G xc W (cfg G.P kk) mo)) (ha : PA X es (tEs G xc W (cfg G.P kk) mes)) :
    PE X (.Call (.Attribute o x p) es [] pos) (tE G xc W (cfg G.P kk) (.meth mo x mes)) := by
  refine ⟨fun pins s σ H Q I h => ?_⟩
  have h : tX G xc W (VR G) (fun ρ hm => (xE (cfg G.P kk) mo ρ hm).bind fun v h => (match v with
    | .ref n => (match h[n]? with
      | some (.ins k fs) => (match fs.lookup x, G.P.meth k x with
        | none, some f => (xEs (cfg G.P kk) mes ρ h).bind fun vs h => callN G.P kk f (.ref n :: vs) h
        | _, _ => .bad)
      | _ => .bad)
    | _ => .bad)) σ H Q := h.of fun _ _ => by simp only [xE] <;> rfl
  refine PySem.W.methodCall_KW (thn (ho.run pins s σ H (fun y H1 => ∃ n a dx fs' k f d, y = .ref a ∧ H1 a = some (.ins (G.ca k) dx fs') ∧ fs'.lookup x = none ∧ G.P.cls[k]? = some d ∧ d.exc = false ∧ d.meths.lookup x = some f ∧ 
      ∃ j ρ hm, j[n]? = some a ∧ RE G j H1 xc ρ σ ∧ RH G j H1 hm ∧ PostV G j H1 (fun cls d H' => W cls d σ H') ((xEs (cfg G.P kk) mes ρ hm).bind fun vs h => callN G.P kk f (.ref n :: vs) h) Q) I
    (h.bind (k := fun ρ v h => _) fun j ρ hm v y H1 re rh r1 P => ?_)) fun u s1 ⟨y, H1, I1, ry, n, a, dx, fs', k, f, d, ey, ea, el, e1, e2, e3, j, ρ, hm, hj, re, rh, P⟩ => ?_) (eval_meth hb hs hn hp)
  · split at P
    · rename_i n
      split at P
      · rename_i k fs e
        split at P
        · rename_i f el em
          obtain ⟨a, dx, fs', rfl, hj, h1, h2, _⟩ := rh.ins e r1
          have z := frow_get h2 (x := x)
          rw [el] at z
          unfold Prog.meth at em
          split at em
          · rename_i d ed
            exact ⟨n, a, dx, fs', k, f, d, rfl, h1, z, ed, co.noexc _ _ _ _ ed em, em, j, ρ, hm, hj, re, rh, P⟩
          · cases em
        · exact P.elim
      · exact P.elim
    · exact P.elim
  · subst ey
    obtain rfl : u = Value.ref a := ry
    have hM : Meth X.K (G.ca k) x (G.fa f) := by rw [C.g.K]; exact co.meth _ _ _ _ e1 e2 e3
    refine getmeth_ok I1 ea (by rw [C.g.K]; exact co.cls _ _ e1 e2) hM el ?_
    refine with_args (xc := xc) (W := W) (c := cfg G.P kk) (mes := mes) C.g hs hM.kp hl ha I1 (Q' := fun vs H2 => ∃ j hm ms, j[n]? = some a ∧ RH G j H2 hm ∧ ms.length = mes.len ∧ VRs G j H2 ms vs ∧ PostV G j H2 (fun cls d H' => W cls d σ H') (callN G.P kk f (.ref n :: ms) hm) Q) ?_ fun us s2 vs H2 I2 r2 ⟨j2, hm2, ms, hj2, rh2, la, rv, P2⟩ => ?_
    · exact ⟨j, ρ, hm, re, rh, P.args.mono fun b H2 ⟨j2, hm2, a2, f2, rh2, l2, r2, P2⟩ => ⟨j2, hm2, a2, f2.get hj, rh2, l2, r2, P2⟩⟩
    · have hv : VRs G j2 H2 (.ref n :: ms) (.ref a :: vs) := .cons (.ref hj2) rv
      have := hf k d f e1 e3
      exact run_call C.g Fs Ds ((C.room rfl).mono (by omega)) tk (by rw [← hv.length, List.length_cons, la]; exact this) I2 (Paired.cons (show RelV (V.ref a) (Value.ref a) from rfl) r2) rh2 hv P2
end
end Mi
/-! MS9: built-ins, their methods, constants. -/
namespace Mi
open PySem PySem.Spec PyProof.Rows L2

section
variable {G : Glb} {xc : Xc} {W : WX} {c : Cfg} {k : Nat} {N : List Str} {sc : Scope} {cm : Bool} {X : Cx}
/-! ### constants -/
theorem s_int {i : Int} {j : Nat} {pos : Pos} : PE X (.Constant (.int i) j pos) (tE G xc W c (.int i)) := s_lit (m := .int i) pe_int (fun _ _ => by simp only [xE]) fun _ _ => .int i
theorem s_bl {b : Bool} {j : Nat} {pos : Pos} : PE X (.Constant (.bool b) j pos) (tE G xc W c (.bl b)) := s_lit (m := .bl b) pe_bl (fun _ _ => by simp only [xE]) fun _ _ => .bl b
theorem s_non {j : Nat} {pos : Pos} : PE X (.Constant .none j pos) (tE G xc W c .non) := s_lit (m := .non) pe_non (fun _ _ => by simp only [xE]) fun _ _ => .non
theorem s_str {x : Str} {j : Nat} {pos : Pos} : PE X (.Constant (.str x) j pos) (tE G xc W c (.str x)) := s_lit (m := .str x) pe_str (fun _ _ => by simp only [xE]) fun _ _ => .str x
/-- a module's constant -/
def ConOk (G : Glb) (x : Str) (m : MV) : Prop := ∃ v u, G.mg x = some u ∧ RelV v u ∧ ∀ j H, VR G j H m v
theorem s_glob {i : Nat} {x : Str} {m : MV} {pos : Pos} (C : Sur G k N sc cm X) (hc : c.P = G.P) (he : G.P.cons[i]? = some (x, m)) (ok : ConOk G x m) (hg : glB sc x = true) : PE X (.Name x pos) (tE G xc W c (.glob i)) := by
  have hp : plainName x = true := by
    unfold glB at hg
    exact (Bool.and_eq_true _ _ ▸ hg).2
  obtain ⟨v, u, h1, h2, h3⟩ := ok
  exact s_lit (m := m) (pe_glob (gl_of C.sc hg) (by rw [C.g.mg]; exact h1) h2 (plainName_of hp).1) (fun σ hm => by simp only [xE, hc, he]) h3
/-! ### built-in functions -/
def bfName : BF → Str
  | .len => "len"
  | .abs => "abs"
  | .int => "int"
  | .list => "list"
  | .tuple => "tuple"
  | .sorted => "sorted"
  | .min2 => "min"
  | .max2 => "max"
  | .sum => "sum"
  | _ => "?"
def bfCan (cm : Bool) : BF → Bool
  | .len => true
  | .abs => true
  | .int => true
  | .list => true
  | .tuple => true
  | .sorted => true
  | .min2 => cm
  | .max2 => cm
  | .sum => cm
  | _ => false
theorem bf_ok (C : Sur G k N sc cm X) {b : BF} (h : bfCan cm b = true) : CallR X (bfVal b) (rFn G (bfn b)) ∧ bootBuiltins (bfName b) = some (bfVal b) ∧ ((∃ id, bfVal b = .builtin id) ∨ ∃ T, bfVal b = .type T) := by
  cases b <;> first
    | exact absurd (show false = true from h) (by decide)
    | skip
  · exact ⟨fn_len C.g, by decide +kernel, .inl ⟨_, rfl⟩⟩
  · exact ⟨fn_abs, by decide +kernel, .inl ⟨_, rfl⟩⟩
  · exact ⟨fn_int, by decide +kernel, .inr ⟨_, rfl⟩⟩
  · exact ⟨fn_list C.g, by decide +kernel, .inr ⟨_, rfl⟩⟩
  · exact ⟨fn_tuple C.g, by decide +kernel, .inr ⟨_, rfl⟩⟩
  · exact ⟨fn_sorted C.g, by decide +kernel, .inl ⟨_, rfl⟩⟩
  · exact ⟨fn_min2 (C.calm h), by decide +kernel, .inl ⟨_, rfl⟩⟩
  · exact ⟨fn_max2 (C.calm h), by decide +kernel, .inl ⟨_, rfl⟩⟩
  · exact ⟨fn_sum C.g (C.calm h), by decide +kernel, .inl ⟨_, rfl⟩⟩
theorem s_bf {b : BF} {x : Str} {p pos : Pos} {e : Expr} {es : List Expr} {mes : MEs} (C : Sur G k N sc cm X) (hb : bfCan cm b = true) (hx : bfName b = x) (hm : G.mg x = none) (hg : glB sc x = true) (hs : starsB (e :: es) = true) (ha : PA X (e :: es) (tEs G xc W c mes)) :
    PE X (.Call (.Name x p) (e :: es) [] pos) (tE G xc W c (.bf b mes)) := by
  subst hx
  have hp : plainName (bfName b) = true := by
    unfold glB at hg
    exact (Bool.and_eq_true _ _ ▸ hg).2
  obtain ⟨h1, h2, h3⟩ := plainName_of hp
  have hs' : starB e = true ∧ starsB es = true := by simpa [starsB] using hs
  obtain ⟨q1, q2, q3⟩ := bf_ok C hb
  have w : ∀ (σ : L2.St) (H : Hp) (Q : VK), tE G xc W c (.bf b mes) σ H Q → tCB (rFn G (bfn b)) (tEs G xc W c mes) σ H Q := fun σ H Q h => by
    have h : tX G xc W (VR G) (fun ρ hm => (xEs c mes ρ hm).bind fun vs h => bfn b vs h) σ H Q := h.of fun _ _ => by simp only [xE]
    exact h.bind (k := fun ρ vs h => bfn b vs h) fun j ρ hm v y H1 re rh r1 P => ⟨_, j, hm, v, rh, r1, P⟩
  rcases q3 with ⟨id, e1⟩ | ⟨T, e1⟩
  · rw [e1] at q1 q2
    exact PE.weak (pe_callB q1 (gl_of C.sc hg) (by rw [C.g.mg]; exact hm) q2 ha h3 h1 (star_cons hs'.1) (star_any hs'.2)) w
  · rw [e1] at q1 q2
    exact PE.weak (pe_callTy q1 (gl_of C.sc hg) (by rw [C.g.mg]; exact hm) q2 ha h3 h1 (star_cons hs'.1) (star_any hs'.2)) w
/-- list(range(..)) -/
theorem rgV_vr {j : List Addr} {H : Hp} (a b : Int) : VRs G j H (rangeV a (b - a).toNat) (rgV a b) := by
  unfold rangeV rgV
  generalize (List.range (b - a).toNat) = l
  induction l with
  | nil => exact .nil
  | cons x l ih => exact .cons (.int _) ih
def tRgA (ta : TA) : L2.St → Hp → (Int → Int → Hp → Prop) → Prop := fun σ H Q => ta σ H fun vs H1 => ∃ n : Int, vs = [.int n] ∧ Q 0 n H1
theorem prgA {a : Expr} {ta : TA} {p pos : Pos} (hg : Gl X "range") (hm : X.mg "range" = none) (ha : PA X [a] ta) (hs : starEach [a] X.env = [(false, eval a X.env)]) : PRg X (.Call (.Name "range" p) [a] [] pos) (tRgA ta) := by
  intro pins s σ H Q I h
  refine Call_ (ld_blt I hg hm boot_range (PyProof.Rows.callWith_type1 (thn (ha.run pos pins s σ H _ I h) fun us s1 ⟨vs, H1, I1, r1, n, e, q⟩ => ?_) hs rfl))
  subst e
  obtain ⟨u, rfl, t, rfl⟩ := vals1 r1
  exact call_range_1 ⟨_, 0, n, _, _, _, H1, rfl, IsRange.new _ _ _ _ _ _ _, I1.kept fun b u e => Heap.get?_push_of_some _ e, q⟩
theorem s_listRg1 {e : Expr} {mes : MEs} {p p2 pos pos2 : Pos} (C : Sur G k N sc true X) (h1 : G.mg "list" = none) (g1 : glB sc "list" = true) (h2 : G.mg "range" = none) (g2 : glB sc "range" = true) (hs : starB e = true) (hl : mes.len = 1) (he : PA X [e] (tEs G xc W c mes)) :
    PE X (.Call (.Name "list" p) [.Call (.Name "range" p2) [e] [] pos2] [] pos) (tE G xc W c (.bf .listRange mes)) := by
  refine PE.weak (pe_listRg (C.calm rfl) (gl_of C.sc g1) (by rw [C.g.mg]; exact h1) (prgA (gl_of C.sc g2) (by rw [C.g.mg]; exact h2) he (star_cons hs)) rfl) fun σ H Q h => ?_
  have h : tX G xc W (VR G) (fun ρ hm => (xEs c mes ρ hm).bind fun vs h => bfn .listRange vs h) σ H Q := h.of fun ρ hm => by simp only [xE]
  show tEs G xc W c mes σ H _
  refine h.args (kk := fun ρ v h => bfn .listRange v h) fun j ρ hm v x H1 re rh hl2 r1 P => ?_
  simp only [bfn] at P
  split at P
  · rename_i xs e2
    split at P
    · rename_i hz
      unfold rngOf at e2
      split at e2
      · rename_i n
        obtain ⟨y, rfl, hy⟩ := VRs.one r1
        cases hy.int_inv
        split at e2
        · rename_i hn
          cases e2
          refine ⟨n, rfl, ⟨by decide, by decide, hn.1, hn.2, ?_⟩, fun q hq => ?_⟩
          · unfold rangeV at hz
            rw [List.length_map, List.length_range, sizeLine_eq] at hz
            have : (n - 0).toNat = n.toNat := by omega
            omega
          · have e0 : (n - 0).toNat = n.toNat := by omega
            have := rgV_vr (G := G) (j := j ++ [q]) (H := upd H1 q (.lst (rgV 0 n))) 0 n
            rw [e0] at this
            exact P.new rh hq ⟨_, upd_same, this⟩ (.ref (len_new rh q))
        · cases e2
      · rw [hl] at hl2
        simp at hl2
      · cases e2
    · exact P.elim
  · exact P.elim
/-! ### methods of built-in types -/
theorem s_bm {b : BM} {o : Expr} {x : Str} {p pos : Pos} {es : List Expr} {mo : ME} {mes : MEs} (C : Sur G k N sc cm X) (hx : bmName b = x) (hb : baseB o = true) (hs : starsB es = true) (hl : es.length = mes.len) (hn : es.length < 29) (hp : (p.endLine == pos.line) = true)
    (ho : PE X o (tE G xc W c mo)) (ha : PA X es (tEs G xc W c mes)) : PE X (.Call (.Attribute o x p) es [] pos) (tE G xc W c (.bm b mo mes)) := by
  subst hx
  refine ⟨fun pins s σ H Q I h => ?_⟩
  have h : tX G xc W (VR G) (fun ρ hm => (xE c mo ρ hm).bind fun v h => (match kindB h v with
    | some k => if bmFit b k = true then (xEs c mes ρ h).bind fun vs h => if kindB h v = some k then bmeth b v vs h else .bad else .bad
    | none => .bad)) σ H Q := h.of fun _ _ => by simp only [xE] <;> rfl
  have hfew : ((backTo pos (starEach es X.env)).all (fun x => !x.1) && (backToKw pos (keywordEach [] X.env)).all (fun x => x.1.isSome)
      && decide (es.length + ([] : List Keyword).length + (if ([] : List Keyword).isEmpty then 0 else 1) < 30)) = true := by
    rw [star_all hs]
    simp [backToKw, keywordEach]
    omega
  refine wpAny_Call_method_late (base_of hb) hfew hp rfl (thn (ho.run pins s σ H (fun y H1 => ∃ k m j ρ hm, kindB hm m = some k ∧ bmFit b k = true ∧ VR G j H1 m y ∧ RE G j H1 xc ρ σ ∧ RH G j H1 hm ∧
      PostV G j H1 (fun cls d H' => W cls d σ H') ((xEs c mes ρ hm).bind fun vs h => if kindB h m = some k then bmeth b m vs h else .bad) Q) I (h.bind (k := fun ρ v h => _) fun j ρ hm v y H1 re rh r1 P => ?_)) fun v s1 ⟨y, H1, I1, r1, k, m, j, ρ, hm, hk, hf, hv, re, rh, P⟩ => ?_)
  · split at P
    · rename_i k hk
      split at P
      · rename_i hf
        exact ⟨k, v, j, ρ, hm, hk, hf, r1, re, rh, P⟩
      · exact P.elim
    · exact P.elim
  · obtain ⟨t1, t2, t3⟩ := bm_facts hf
    obtain ⟨t4, t5⟩ := kind_is C.g I1 rh hk hv r1
    refine ⟨kindT k, bmId b k, t1, t2, t3, t4, t5, ?_⟩
    have fin : ∀ (us : List Value) (s2 : Shared) (vs : List V) (H2 : Hp), Inv X pins σ H2 s2 → Vals vs us → (∃ j2 hm2 ms, Fut j H1 j2 H2 ∧ RH G j2 H2 hm2 ∧ ms.length = mes.len ∧ VRs G j2 H2 ms vs ∧ PostV G j2 H2 (fun cls d H' => W cls d σ H') (if kindB hm2 m = some k then bmeth b m ms hm2 else .bad) Q) →
        wpAny (model X.prog X.w) X.A (call (.builtin (bmId b k)) (v :: us)) (EP X pins σ Q) X.xe s2 := fun us s2 vs H2 I2 r2 ⟨j2, hm2, ms, f2, rh2, la, rv, P2⟩ => by
      split at P2
      · rename_i hk2
        exact bm_call C.g C.hu I2 rh2 hk2 hf (hv.mono f2) rv r1 r2 P2
      · exact P2.elim
    have hA := P.args
    cases es with
    | nil =>
      cases mes with
      | nil =>
        simp only [xEs] at hA
        exact Calls.callWith_builtin rfl (PySem.evalArgs_none (fin [] s1 [] H1 I1 .nil (hA.ok rh .nil)))
      | cons a b => simp [MEs.len] at hl
    | cons e es =>
      have hs' : starB e = true ∧ starsB es = true := by simpa [starsB] using hs
      have hR := ha.run pos pins s1 σ H1 _ I1 ⟨j, ρ, hm, re, rh, hA⟩
      rw [star_cons hs'.1] at hR ⊢
      refine Calls.callWith_builtin (by show (false || (backTo pos (starEach es X.env)).any (·.1)) = false; rw [star_any hs'.2] <;> rfl) (Calls.evalArgs_plain ?_)
      exact thn hR fun us s2 ⟨vs, H2, I2, r2, q2⟩ => fin us s2 vs H2 I2 r2 q2
end
end Mi
/-! MS10: tests, simple statements. -/
namespace Mi
open PySem PySem.Spec PyProof.Rows L2

/-! ### tests -/
section
variable {G : Glb} {xc : Xc} {W : WX} {c : Cfg} {k : Nat} {N : List Str} {sc : Scope} {cm : Bool} {X : Cx}
theorem tX.ref {α β : Type} {Rel : List Addr → Hp → α → β → Prop} {f f' : MEnv → MH → R α} {σ : L2.St} {H : Hp} {Q : β → Hp → Prop} (h : tX G xc W Rel f σ H Q) (he : ∀ ρ hm, f ρ hm = .bad ∨ f ρ hm = f' ρ hm) : tX G xc W Rel f' σ H Q := by
  obtain ⟨j, ρ, hm, re, rh, P⟩ := h
  refine ⟨j, ρ, hm, re, rh, ?_⟩
  rcases he ρ hm with e | e
  · rw [e] at P; exact P.elim
  · rw [← e]; exact P
abbrev EqR (_ : List Addr) (_ : Hp) (a b : Bool) : Prop := a = b
theorem xT_and (a b : ME) (ρ : MEnv) (hm : MH) : xT c (.and a b) ρ hm = .bad ∨ xT c (.and a b) ρ hm = (xT c a ρ hm).bind fun k h => if k = true then xT c b ρ h else .ok false h := by
  simp only [xT, xE]
  cases e : xE c a ρ hm with
  | ok v h =>
    simp only [R.bind]
    cases v with
    | bl k => cases k <;> exact .inr rfl
    | _ => exact .inl rfl
  | exc x h => exact .inr rfl
  | bad => exact .inl rfl
theorem xT_or (a b : ME) (ρ : MEnv) (hm : MH) : xT c (.or a b) ρ hm = .bad ∨ xT c (.or a b) ρ hm = (xT c a ρ hm).bind fun k h => if k = true then .ok true h else xT c b ρ h := by
  simp only [xT, xE]
  cases e : xE c a ρ hm with
  | ok v h =>
    simp only [R.bind]
    cases v with
    | bl k => cases k <;> exact .inr rfl
    | _ => exact .inl rfl
  | exc x h => exact .inr rfl
  | bad => exact .inl rfl
theorem xT_not (a : ME) (ρ : MEnv) (hm : MH) : xT c (.not a) ρ hm = .bad ∨ xT c (.not a) ρ hm = (xT c a ρ hm).bind fun k h => .ok (!k) h := by
  simp only [xT, xE]
  cases e : xE c a ρ hm with
  | ok v h =>
    simp only [R.bind]
    cases e2 : truth v h with
    | none => exact .inl rfl
    | some k => exact .inr rfl
  | exc x h => exact .inr rfl
  | bad => exact .inl rfl
theorem t_and1 {a : Expr} {pos : Pos} {ma : ME} (ha : PT X a (tT G xc W c ma)) : PW X (.BoolOp .And [a] pos) (tT G xc W c ma) := pw_and1 ha
theorem t_or1 {a : Expr} {pos : Pos} {ma : ME} (ha : PT X a (tT G xc W c ma)) : PW X (.BoolOp .Or [a] pos) (tT G xc W c ma) := pw_or1 ha
theorem t_and {a b : Expr} {rest : List Expr} {pos : Pos} {ma mb : ME} (ha : PT X a (tT G xc W c ma)) (hb : PW X (.BoolOp .And (b :: rest) pos) (tT G xc W c mb)) : PW X (.BoolOp .And (a :: b :: rest) pos) (tT G xc W c (.and ma mb)) := by
  refine PW.weak (pw_and ha hb) fun σ H Q h => ?_
  have h := tX.ref h (xT_and ma mb)
  refine h.bind (k := fun ρ k h => if k = true then xT c mb ρ h else .ok false h) fun j ρ hm v x H1 re rh r1 P => ?_
  subst r1
  cases v with
  | true => exact iteT ⟨j, ρ, hm, re, rh, P⟩
  | false => exact iteF (Post.ok (Rel := EqR) P rh rfl)
theorem t_or {a b : Expr} {rest : List Expr} {pos : Pos} {ma mb : ME} (ha : PT X a (tT G xc W c ma)) (hb : PW X (.BoolOp .Or (b :: rest) pos) (tT G xc W c mb)) : PW X (.BoolOp .Or (a :: b :: rest) pos) (tT G xc W c (.or ma mb)) := by
  refine PW.weak (pw_or ha hb) fun σ H Q h => ?_
  have h := tX.ref h (xT_or ma mb)
  refine h.bind (k := fun ρ k h => if k = true then .ok true h else xT c mb ρ h) fun j ρ hm v x H1 re rh r1 P => ?_
  subst r1
  cases v with
  | true => exact iteT (Post.ok (Rel := EqR) P rh rfl)
  | false => exact iteF ⟨j, ρ, hm, re, rh, P⟩
theorem t_not {a : Expr} {pos : Pos} {ma : ME} (ha : PT X a (tT G xc W c ma)) : PT X (.UnaryOp .Not a pos) (tT G xc W c (.not ma)) := by
  refine PT.weak (pt_not ha) fun σ H Q h => ?_
  have h := tX.ref h (xT_not ma)
  refine h.bind (k := fun ρ k h => .ok (!k) h) fun j ρ hm v x H1 re rh r1 P => ?_
  subst r1
  exact Post.ok (Rel := EqR) P rh rfl
/-- what is not itself a test's form -/
def plainT : Expr → Bool
  | .UnaryOp .Not _ _ => false
  | .BoolOp _ _ _ => false
  | .IfExp _ _ _ _ => false
  | .Compare _ _ _ _ => false
  | _ => true
theorem plainT_of {e : Expr} {env : Env} (h : plainT e = true) (whole : Sem Value) : isTrue e env whole = (do let v ← whole; standAt e.pos; holding [v] (truthy v)) := by
  cases e with
  | UnaryOp op x p => cases op <;> first | rfl | exact absurd (show false = true from h) (by decide)
  | BoolOp _ _ _ => exact absurd (show false = true from h) (by decide)
  | IfExp _ _ _ _ => exact absurd (show false = true from h) (by decide)
  | Compare _ _ _ _ => exact absurd (show false = true from h) (by decide)
  | _ => rfl
theorem t_plain {e : Expr} {me : ME} (C : Sur G k N sc cm X) (hp : plainT e = true) (h : PE X e (tE G xc W c me)) : PT X e (tT G xc W c me) := by
  refine PT.weak (pt_truth h (plainT_of hp)) fun σ H Q h => ?_
  have h : tX G xc W EqR (fun ρ hm => (xE c me ρ hm).bind fun v h => (match truth v h with
    | some b => .ok b h
    | none => .bad)) σ H Q := h.of fun _ _ => by simp only [xT] <;> rfl
  refine h.bind (k := fun ρ v h => _) fun j ρ hm v x H1 re rh r1 P => ?_
  split at P
  · rename_i b e
    exact ⟨b, tru_of C.g rh e r1, Post.ok (Rel := EqR) P rh rfl⟩
  · exact P.elim
/-- a comparison's answer is a bool -/
theorem cmpop_bl {op : CmpOp} {v w u : MV} {h h' : MH} (e : cmpop op v w h = .ok u h') : ∃ b, u = .bl b := by
  cases op <;> simp only [cmpop, intLt] at e <;> split at e <;> cases e <;> exact ⟨_, rfl⟩
theorem tT_val {me : ME} (hb : ∀ ρ hm v h', xE c me ρ hm = .ok v h' → ∃ b, v = .bl b) {σ : L2.St} {H : Hp} {Q : Bool → Hp → Prop} (h : tT G xc W c me σ H Q) : tE G xc W c me σ H (fun x H' => ∃ k, x = .bl k ∧ Q k H') := by
  obtain ⟨j, ρ, hm, re, rh, P⟩ := h
  refine ⟨j, ρ, hm, re, rh, ?_⟩
  simp only [xT] at P
  cases e : xE c me ρ hm with
  | ok v h' =>
    obtain ⟨b, rfl⟩ := hb _ _ _ _ e
    rw [e] at P
    intro j' H' x f rh' r
    cases r.bl_inv
    exact ⟨b, rfl, P j' H' b f rh' rfl⟩
  | exc x h' => rw [e] at P; exact P
  | bad => rw [e] at P; exact P
theorem two_weak {me ma mb : ME} {f : MV → MV → MH → R MV} (he : ∀ ρ hm, xE c me ρ hm = (xE c ma ρ hm).bind fun v h => (xE c mb ρ h).bind fun w h => f v w h) {σ : L2.St} {H : Hp} {Q : VK} (h : tE G xc W c me σ H Q) :
    tOp (rTwo G f) (tE G xc W c ma) (tE G xc W c mb) σ H Q := by
  have h := h.of he
  refine h.bind (k := fun ρ v h => (xE c mb ρ h).bind fun w h => f v w h) fun j ρ hm v x H1 re rh r1 P => ?_
  refine ⟨j, ρ, hm, re, rh, P.bind.mono fun y H2 ⟨j2, hm2, w, f2, rh2, r2, P2⟩ => ?_⟩
  exact ⟨_, j2, hm2, v, w, rh2, r1.mono f2, r2, P2⟩
theorem t_cmp {a b : Expr} {op : CmpOp} {pos : Pos} {ma mb : ME} (C : Sur G k N sc cm X) (ha : PE X a (tE G xc W c ma)) (hb : PE X b (tE G xc W c mb)) (hm : behindInMarks op b = false) : PT X (.Compare a [op] [b] pos) (tT G xc W c (.cmp op ma mb)) := by
  refine PT.weak (pt_cmpR (cmp_ok C.g C.hu op) ha hb hm) fun σ H Q h => two_weak (me := .cmp op ma mb) (fun _ _ => by simp only [xE]) (tT_val (fun ρ hm v h' e => ?_) h)
  simp only [xE] at e
  cases e1 : xE c ma ρ hm with
  | ok v1 h1 =>
    rw [e1] at e
    simp only [R.bind] at e
    cases e2 : xE c mb ρ h1 with
    | ok v2 h2 => rw [e2] at e; exact cmpop_bl e
    | exc x h2 => rw [e2] at e; cases e
    | bad => rw [e2] at e; cases e
  | exc x h1 => rw [e1] at e; cases e
  | bad => rw [e1] at e; cases e
theorem chain_weak {op op' : CmpOp} {ma mb md : ME} {σ : L2.St} {H : Hp} {Q : VK} (h : tE G xc W c (.cmp2 op op' ma mb md) σ H Q) :
    tChain (rTwo G (cmpop op)) (rTwo G (cmpop op')) (tE G xc W c ma) (tE G xc W c mb) (tE G xc W c md) σ H Q := by
  have h : tX G xc W (VR G) (fun ρ hm => (xE c ma ρ hm).bind fun v h => (xE c mb ρ h).bind fun w h => (cmpop op v w h).bind fun r h => (match r with
    | .bl true => (xE c md ρ h).bind fun u h => cmpop op' w u h
    | .bl false => .ok (.bl false) h
    | _ => .bad)) σ H Q := h.of fun _ _ => by simp only [xE] <;> rfl
  refine h.bind (k := fun ρ v h => (xE c mb ρ h).bind fun w h => (cmpop op v w h).bind fun r h => (match r with
    | .bl true => (xE c md ρ h).bind fun u h => cmpop op' w u h
    | .bl false => .ok (.bl false) h
    | _ => .bad)) fun j ρ hm v x H1 re rh r1 P => ?_
  refine ⟨j, ρ, hm, re, rh, P.bind.mono fun y H2 ⟨j2, hm2, w, f2, rh2, r2, P2⟩ => ?_⟩
  refine ⟨_, j2, hm2, v, w, rh2, r1.mono f2, r2, P2.bind.mono fun z H3 ⟨j3, hm3, r, f3, rh3, r3, P3⟩ => ?_⟩
  split at P3
  · cases r3.bl_inv
    refine ⟨true, rfl, iteT ⟨j3, ρ, hm3, re.mono (f2.trans f3), rh3, P3.bind.mono fun u H4 ⟨j4, hm4, uu, f4, rh4, r4, P4⟩ => ?_⟩⟩
    exact ⟨_, j4, hm4, w, uu, rh4, r2.mono (f3.trans f4), r4, P4⟩
  · cases r3.bl_inv
    exact ⟨false, rfl, iteF (P3.ok rh3 (.bl _))⟩
  · exact P3.elim
theorem t_cmp2 {a b d : Expr} {op op' : CmpOp} {pos : Pos} {ma mb md : ME} (C : Sur G k N sc cm X) (ha : PE X a (tE G xc W c ma)) (hb : PE X b (tE G xc W c mb)) (hd : PE X d (tE G xc W c md)) (hm : lastMarks [op, op'] [b, d] = false) :
    PT X (.Compare a [op, op'] [b, d] pos) (tT G xc W c (.cmp2 op op' ma mb md)) := by
  refine PT.weak (pt_chain (cmp_ok C.g C.hu op) (cmp_ok C.g C.hu op') ha hb hd hm) fun σ H Q h => chain_weak (tT_val (fun ρ hm v h' e => ?_) h)
  simp only [xE] at e
  cases e1 : xE c ma ρ hm with
  | ok v1 h1 =>
    rw [e1] at e
    simp only [R.bind] at e
    cases e2 : xE c mb ρ h1 with
    | ok v2 h2 =>
      rw [e2] at e
      simp only at e
      cases e3 : cmpop op v1 v2 h2 with
      | ok v3 h3 =>
        rw [e3] at e
        simp only at e
        split at e
        · cases e4 : xE c md ρ h3 with
          | ok v4 h4 => rw [e4] at e; exact cmpop_bl e
          | exc x h4 => rw [e4] at e; cases e
          | bad => rw [e4] at e; cases e
        · cases e; exact ⟨_, rfl⟩
        · cases e
      | exc x h3 => rw [e3] at e; cases e
      | bad => rw [e3] at e; cases e
    | exc x h2 => rw [e2] at e; cases e
    | bad => rw [e2] at e; cases e
  | exc x h1 => rw [e1] at e; cases e
  | bad => rw [e1] at e; cases e
end

/-! ### statements -/
/-- what a statement's mini end asks of the layer -/
def OutP (G : Glb) (xc : Xc) (W : WX) (D : Ends) (j : List Addr) (H : Hp) : Out → Prop
  | .nx ρ hm => ∀ j' H' σ, Fut j H j' H' → RH G j' H' hm → RE G j' H' xc ρ σ → D.nx σ H'
  | .rt v hm => ∀ j' H' x, Fut j H j' H' → RH G j' H' hm → VR G j' H' v x → D.rt x H'
  | .bk ρ hm => ∀ j' H' σ, Fut j H j' H' → RH G j' H' hm → RE G j' H' xc ρ σ → D.bk σ H'
  | .ct ρ hm => ∀ j' H' σ, Fut j H j' H' → RH G j' H' hm → RE G j' H' xc ρ σ → D.ct σ H'
  | .ex x ρ hm => ∀ j' H' cls d σ, Fut j H j' H' → RH G j' H' hm → RE G j' H' xc ρ σ → XR G j' H' x cls d → W cls d σ H'
  | .bad => False
/-- a statement's reading by its mini meaning -/
def tS (G : Glb) (xc : Xc) (W : WX) (f : MEnv → MH → Out) : TS := fun D σ H => ∃ j ρ hm, RE G j H xc ρ σ ∧ RH G j H hm ∧ OutP G xc W D j H (f ρ hm)
section
variable {G : Glb} {xc : Xc} {W W' : WX} {D D' : Ends} {c : Cfg} {k : Nat} {N : List Str} {sc : Scope} {cm : Bool} {X : Cx} {j j' : List Addr} {H H' : Hp}
theorem tS.of {f f' : MEnv → MH → Out} {σ : L2.St} (h : tS G xc W f D σ H) (he : ∀ ρ hm, f ρ hm = f' ρ hm) : tS G xc W f' D σ H := by
  obtain ⟨j, ρ, hm, re, rh, P⟩ := h
  exact ⟨j, ρ, hm, re, rh, by rw [← he]; exact P⟩
theorem OutP.fut {o : Out} (h : OutP G xc W D j H o) (f : Fut j H j' H') : OutP G xc W D j' H' o := by
  cases o with
  | nx ρ hm => exact fun j2 H2 σ f2 => h j2 H2 σ (f.trans f2)
  | rt ρ hm => exact fun j2 H2 σ f2 => h j2 H2 σ (f.trans f2)
  | bk ρ hm => exact fun j2 H2 σ f2 => h j2 H2 σ (f.trans f2)
  | ct ρ hm => exact fun j2 H2 σ f2 => h j2 H2 σ (f.trans f2)
  | ex x ρ hm => exact fun j2 H2 a b σ f2 => h j2 H2 a b σ (f.trans f2)
  | bad => exact h
theorem OutP.elim {P : Prop} (h : OutP G xc W D j H .bad) : P := False.elim h
theorem OutP.bind {α β : Type} {Rel : List Addr → Hp → α → β → Prop} {r : R α} {f : α → MH → Out} {ρ : MEnv} {σ : L2.St} (re : RE G j H xc ρ σ) (h : OutP G xc W D j H (r.out ρ f)) :
    Post G Rel j H (fun cls d H' => W cls d σ H') r (fun b H1 => ∃ j1 hm a, Fut j H j1 H1 ∧ RH G j1 H1 hm ∧ Rel j1 H1 a b ∧ OutP G xc W D j1 H1 (f a hm)) := by
  cases r with
  | ok a hm => exact fun j1 H1 b f1 rh1 l => ⟨j1, hm, a, f1, rh1, l, OutP.fut (show OutP G xc W D j H (f a hm) from h) f1⟩
  | exc x hm => exact fun j1 H1 cls d f1 rh1 xr => h j1 H1 cls d σ f1 rh1 (re.mono f1) xr
  | bad => exact h
theorem OutP.nx {ρ : MEnv} {hm : MH} {σ : L2.St} (h : OutP G xc W D j H (.nx ρ hm)) (re : RE G j H xc ρ σ) (rh : RH G j H hm) : D.nx σ H := h j H σ (Fut.refl _ _) rh re
theorem RE.set {ρ : MEnv} {σ : L2.St} (re : RE G j H xc ρ σ) {m : MV} {v : V} (r : VR G j H m v) (i : Nat) : RE G j H xc (ρ.set i (some m)) (σ.set i (some v)) := by
  refine ⟨by simp [re.len], fun k m' e => ?_⟩
  by_cases hk : i = k
  · subst hk
    have hl : i < ρ.length := by
      have := (List.getElem?_eq_some_iff.mp e).1
      simpa using this
    rw [List.getElem?_set_self hl] at e
    cases e
    exact .inl ⟨v, by rw [List.getElem?_set_self (by rw [← re.len]; exact hl)], r⟩
  · rw [List.getElem?_set_ne hk] at e
    rw [List.getElem?_set_ne hk]
    exact re.at_ k m' e
theorem RE.unset {ρ : MEnv} {σ : L2.St} (re : RE G j H xc ρ σ) (i : Nat) : RE G j H xc (ρ.set i none) (σ.set i none) := by
  refine ⟨by simp [re.len], fun k m' e => ?_⟩
  by_cases hk : i = k
  · subst hk
    have hl : i < ρ.length := by
      have := (List.getElem?_eq_some_iff.mp e).1
      simpa using this
    rw [List.getElem?_set_self hl] at e
    cases e
  · rw [List.getElem?_set_ne hk] at e
    rw [List.getElem?_set_ne hk]
    exact re.at_ k m' e
/-- a store's reading -/
def gM (G : Glb) (xc : Xc) (f : MV → MEnv → Option MEnv) : TG := fun x σ H Q => ∃ j ρ m ρ', RE G j H xc ρ σ ∧ VR G j H m x ∧ f m ρ = some ρ' ∧ ∀ σ', RE G j H xc ρ' σ' → Q σ' H
theorem PG.weak {tg : Expr} {t t' : TG} (h : PG X tg t) (w : ∀ v σ H Q, t' v σ H Q → t v σ H Q) : PG X tg t' := ⟨fun pins s σ H v u Q I r q => h.run pins s σ H v u Q I r (w v σ H Q q)⟩
def locB (sc : Scope) (x : Str) : Bool := match sc.names.lookup x with
  | some .local => true
  | some .cell => true
  | _ => false
theorem loc_of {x : Str} (h : locB sc x = true) : Loc sc x := by
  unfold locB at h
  split at h
  · exact .inl ‹_›
  · exact .inr ‹_›
  · cases h
theorem g_name {i : Nat} {x : Str} {pos : Pos} (C : Sur G k N sc cm X) (hi : N[i]? = some x) (hl : locB sc x = true) (hf : X.fn x = true ∨ X.env.scope.names.lookup x = some .local) : PG X (.Name x pos) (gM G xc (setT (.name i))) := by
  refine PG.weak (pg_name (i := i) (by rw [C.ns]; exact C.nd) (by rw [C.ns]; exact hi) (by rw [C.sc]; exact loc_of hl) hf) fun v σ H Q ⟨j, ρ, m, ρ', re, r, e, q⟩ => ?_
  simp only [setT] at e
  cases e
  exact q _ (re.set r i)
theorem ps_tX {me : ME} {σ : L2.St} {H : Hp} {Q : VK} {f : MEnv → MV → MH → Out} (h : tS G xc W (fun ρ h => (xE c me ρ h).out ρ (f ρ)) D σ H)
    (w : ∀ (j : List Addr) (ρ : MEnv) (hm : MH) (a : MV) (b : V) (H1 : Hp), RE G j H1 xc ρ σ → RH G j H1 hm → VR G j H1 a b → OutP G xc W D j H1 (f ρ a hm) → Q b H1) : tE G xc W c me σ H Q := by
  obtain ⟨j, ρ, hm, re, rh, P⟩ := h
  exact ⟨j, ρ, hm, re, rh, (OutP.bind re P).mono fun b H1 ⟨j1, hm1, a, f1, rh1, r1, P1⟩ => w j1 ρ hm1 a b H1 (re.mono f1) rh1 r1 P1⟩
/-! ### -/
def notLc : Expr → Bool
  | .ListComp _ _ _ _ => false
  | .SetComp _ _ _ _ => false
  | .DictComp _ _ _ _ _ => false
  | _ => true
theorem sw_not {e : Expr} {t : Option Expr} {l : Nat} {env : Env} (h : notLc e = true) : swapsWith e t l env = pure false := by
  cases e <;> first | rfl | exact absurd (show false = true from h) (by decide)
def notTup : Expr → Bool
  | .Tuple _ _ _ => false
  | _ => true
theorem swp_not {tg e : Expr} {env : Env} (h : notTup e = true) : swappedStores [tg] e env = pure none := by
  cases tg <;> cases e <;> first | rfl | exact absurd (show false = true from h) (by decide)
theorem s_expr {e : Expr} {pos : Pos} {me : ME} (hs : notLc e = true) (h : PE X e (tE G xc W c me)) : PS X (.Expr e pos) (tS G xc W (xS c (.expr me))) := by
  refine PS.weak (ps_expr h (sw_not hs)) fun D σ H q => ?_
  have q : tS G xc W (fun ρ h => (xE c me ρ h).out ρ fun _ h => .nx ρ h) D σ H := q.of fun _ _ => by simp only [xS] <;> rfl
  exact ps_tX (f := fun ρ _ h => .nx ρ h) q fun j ρ hm a b H1 re rh r P => P.nx re rh
theorem s_ret {e : Expr} {pos : Pos} {me : ME} (h : PE X e (tE G xc W c me)) : PS X (.Return (some e) pos) (tS G xc W (xS c (.ret me))) := by
  refine PS.weak (ps_ret h) fun D σ H q => ?_
  have q : tS G xc W (fun ρ h => (xE c me ρ h).out ρ fun v h => .rt v h) D σ H := q.of fun _ _ => by simp only [xS] <;> rfl
  exact ps_tX (f := fun ρ v h => .rt v h) q fun j ρ hm a b H1 re rh r P => P j H1 b (Fut.refl _ _) rh r
theorem s_retN {pos : Pos} : PS X (.Return none pos) (tS G xc W (xS c .retN)) := by
  refine PS.weak ps_retN fun D σ H ⟨j, ρ, hm, re, rh, P⟩ => ?_
  simp only [xS] at P
  exact P j H .non (Fut.refl _ _) rh .non
theorem s_pass {pos : Pos} : PS X (.Pass pos) (tS G xc W (xS c .pass)) := by
  refine PS.weak ps_pass fun D σ H ⟨j, ρ, hm, re, rh, P⟩ => ?_
  simp only [xS] at P
  exact P.nx re rh
theorem s_doc {x : Str} {i : Nat} {p pos : Pos} : PS X (.Expr (.Constant (.str x) i p) pos) (tS G xc W (xS c .pass)) := by
  refine PS.weak ps_doc fun D σ H ⟨j, ρ, hm, re, rh, P⟩ => ?_
  simp only [xS] at P
  exact P.nx re rh
theorem s_brk {pos : Pos} : PS X (.Break pos) (tS G xc W (xS c .brk)) := by
  refine PS.weak ps_break fun D σ H ⟨j, ρ, hm, re, rh, P⟩ => ?_
  simp only [xS] at P
  exact P j H σ (Fut.refl _ _) rh re
theorem s_cont {pos : Pos} : PS X (.Continue pos) (tS G xc W (xS c .cont)) := by
  refine PS.weak ps_continue fun D σ H ⟨j, ρ, hm, re, rh, P⟩ => ?_
  simp only [xS] at P
  exact P j H σ (Fut.refl _ _) rh re
theorem s_sNil : PSs X [] (tS G xc W (xB c .nil)) := by
  refine PSs.weak pss_nil fun D σ H ⟨j, ρ, hm, re, rh, P⟩ => ?_
  simp only [xB] at P
  exact P.nx re rh
/-- the ends of a statement and of those behind it -/
theorem OutP.seq {o : Out} {f : MEnv → MH → Out} (h : OutP G xc W D j H (match o with
    | .nx σ' h' => f σ' h'
    | o => o)) : OutP G xc W { D with nx := fun σ H => tS G xc W f D σ H } j H o := by
  cases o with
  | nx ρ hm => exact fun j1 H1 σ f1 rh re => ⟨j1, ρ, hm, re, rh, OutP.fut (show OutP G xc W D j H (f ρ hm) from h) f1⟩
  | _ => exact h
theorem s_sCons {st : Stmt} {sts : List Stmt} {ms : MS} {mss : MSs} (h1 : PS X st (tS G xc W (xS c ms))) (h2 : PSs X sts (tS G xc W (xB c mss))) : PSs X (st :: sts) (tS G xc W (xB c (.cons ms mss))) := by
  refine PSs.weak (pss_cons h1 h2) fun D σ H ⟨j, ρ, hm, re, rh, P⟩ => ?_
  simp only [xB] at P
  exact ⟨j, ρ, hm, re, rh, OutP.seq P⟩
theorem s_if {t : Expr} {a b : List Stmt} {pos : Pos} {mt : ME} {ma mb : MSs} (ht : PT X t (tT G xc W c mt)) (ha : PSs X a (tS G xc W (xB c ma))) (hb : PSs X b (tS G xc W (xB c mb))) : PS X (.If t a b pos) (tS G xc W (xS c (.ite mt ma mb))) := by
  refine PS.weak (ps_if ht ha hb) fun D σ H ⟨j, ρ, hm, re, rh, P⟩ => ?_
  simp only [xS] at P
  refine ⟨j, ρ, hm, re, rh, (OutP.bind (Rel := EqR) re P).mono fun b H1 ⟨j1, hm1, a, f1, rh1, r1, P1⟩ => ?_⟩
  have r1 : a = b := r1
  subst r1
  cases a with
  | true => exact iteT ⟨j1, ρ, hm1, re.mono f1, rh1, P1⟩
  | false => exact iteF ⟨j1, ρ, hm1, re.mono f1, rh1, P1⟩
/-- name = e -/
theorem s_asg {tg e : Expr} {pos : Pos} {me : ME} {mt : MT} (h : PE X e (tE G xc W c me)) (hg : PG X tg (gM G xc (setT mt))) (hs : swapsWithSole [tg] e pos.line X.env = pure false) (hw : swappedStores [tg] e X.env = pure none)
    (h1 : (assignEach [tg] X.env).map (·.2) = [assign tg X.env]) : PS X (.Assign [tg] e pos) (tS G xc W (xS c (.asg mt me))) := by
  refine PS.weak (ps_asg h hg hs hw h1) fun D σ H q => ?_
  have q : tS G xc W (fun ρ h => (xE c me ρ h).out ρ fun v h => (match setT mt v ρ with
    | some σ' => .nx σ' h
    | none => .bad)) D σ H := q.of fun _ _ => by simp only [xS] <;> rfl
  refine ps_tX (f := fun ρ v h => _) q fun j ρ hm a b H1 re rh r P => ?_
  split at P
  · rename_i ρ' e
    exact ⟨j, ρ, a, ρ', re, r, e, fun σ' re' => P.nx re' rh⟩
  · exact P.elim
/-- o.f = e -/
theorem s_setF {o e : Expr} {x : Str} {p pos : Pos} {mo me : ME} (C : Sur G k N sc cm X) (co : ∀ (c : Nat) (d : ClD), G.P.cls[c]? = some d → d.exc = false → Cls G.K (G.ca c) ∧ NoAttr G.K (G.ca c) x) (ho : PE X o (tE G xc W c mo)) (he : PE X e (tE G xc W c me)) :
    PS X (.Assign [.Attribute o x p] e pos) (tS G xc W (xS c (.setF mo x me))) := by
  have hs : swapsWith e (some (.Attribute o x p)) pos.line X.env = pure false := by cases e <;> rfl
  refine PS.weak (ps_fld ho he hs) fun D σ H q => ?_
  have q : tS G xc W (fun ρ h => (xE c me ρ h).out ρ fun w h => (xE c mo ρ h).out ρ fun v h => (match setFd v x w h with
    | some h' => .nx ρ h'
    | none => .bad)) D σ H := q.of fun _ _ => by simp only [xS] <;> rfl
  refine ps_tX (f := fun ρ w h => (xE c mo ρ h).out ρ fun v h => (match setFd v x w h with
    | some h' => .nx ρ h'
    | none => .bad)) q fun j ρ hm w y H1 re rh r P => ?_
  refine ⟨j, ρ, hm, re, rh, (OutP.bind re P).mono fun b H2 ⟨j2, hm2, a, f2, rh2, r2, P2⟩ => ?_⟩
  split at P2
  · rename_i h' e2
    unfold setFd at e2
    split at e2
    · split at e2
      · rename_i n k fs e3
        split at e2
        · rename_i hl
          cases e2
          obtain ⟨a, dx, fs', rfl, hj, h1, h2, ow⟩ := rh2.ins e3 r2
          obtain ⟨d, d1, d2⟩ := id ow
          have f3 := fut_set (j := j2) (u := .ins (G.ca k) dx (putF x y fs')) h1 (fun _ z => (nomatch z)) (fun _ _ z => (nomatch z))
          have hl' : fs.length = fs'.length := Paired.length h2
          refine ⟨a, _, dx, fs', rfl, h1, by rw [C.g.K]; exact (co _ _ d1 d2).1, by rw [C.g.K]; exact (co _ _ d1 d2).2, by omega, ?_⟩
          refine (P2.fut f3).nx (re.mono (f2.trans f3)) (rh2.set hj f3 ⟨dx, _, upd_same, ?_, ow⟩)
          exact frow_put (Paired.mapP h2 fun _ _ z => z.mono f3) x (r.mono (f2.trans f3))
        · cases e2
      · cases e2
    · cases e2
  · exact P2.elim
end
end Mi
/-! MS11: stores, loops. -/
namespace Mi
open PySem PySem.Spec PyProof.Rows L2

section
variable {G : Glb} {xc : Xc} {W : WX} {D : Ends} {c : Cfg} {k : Nat} {N : List Str} {sc : Scope} {cm : Bool} {X : Cx} {j j' : List Addr} {H H' : Hp}
/-! ### o[i] = e -/
def rSetM (G : Glb) : TSet := fun o i v H Q => ∃ j hm m n w h', RH G j H hm ∧ VR G j H m o ∧ VR G j H n i ∧ VR G j H w v ∧ setIx m n w hm = some h' ∧ ∀ j' H', Fut j H j' H' → RH G j' H' h' → Q H'
theorem set_ok (C : Sur G k N sc cm X) : PSet X (rSetM G) := by
  rintro pins s σ H o i v ov iv u Q I ro ri rv ⟨j, hm, m, n, w, h', rh, r1, r2, r3, e, q⟩
  unfold setIx at e
  split at e
  · rename_i a
    split at e
    · rename_i vs e1
      split at e
      · rename_i kk
        split at e
        · rename_i p e2
          cases e
          obtain ⟨p', xs, rfl, hj, h1, h2⟩ := rh.lst e1 r1
          cases r2.int_inv
          have f := fut_set (j := j) (u := .lst (xs.set p v)) h1 (fun _ z => (nomatch z)) (fun _ _ z => (nomatch z))
          exact set_list pins s σ H _ _ v ov iv u Q I ro ri rv ⟨p', xs, kk, p, rfl, rfl, h1, by rw [← h2.length]; exact e2, q _ _ f (rh.set hj f ⟨_, upd_same, (h2.set r3 p).mono f⟩)⟩
        · cases e
      · cases e
    · rename_i kvs e1
      split at e
      · rename_i hc
        cases e
        have hu := C.hu
        exact d_put C.g (by omega) I rh e1 hc.1 hc.2 r1 r2 r3 ro ri rv fun H' s' I' f rh' => ⟨H', I', q _ _ f rh'⟩
      · cases e
    · cases e
  · cases e
theorem s_setI {o i e : Expr} {p pos : Pos} {mo mi me : ME} (C : Sur G k N sc cm X) (hix : plainIxB i = true) (ho : PE X o (tE G xc W c mo)) (hi : PE X i (tE G xc W c mi)) (he : PE X e (tE G xc W c me)) :
    PS X (.Assign [.Subscript o i p] e pos) (tS G xc W (xS c (.setI mo mi me))) := by
  have hs : swapsWithSole [.Subscript o i p] e pos.line X.env = pure false := by cases e <;> rfl
  have hw : swappedStores [.Subscript o i p] e X.env = pure none := by cases e <;> rfl
  refine PS.weak (ps_asg he (pg_sub ho hi (set_ok C) (by cases i <;> first | (intro _; rfl) | exact absurd (show false = true from hix) (by decide))) hs hw (by rfl)) fun D σ H q => ?_
  have q : tS G xc W (fun ρ h => (xE c me ρ h).out ρ fun w h => (xE c mo ρ h).out ρ fun v h => (xE c mi ρ h).out ρ fun k h => (match setIx v k w h with
    | some h' => .nx ρ h'
    | none => .bad)) D σ H := q.of fun _ _ => by simp only [xS] <;> rfl
  refine ps_tX (f := fun ρ w h => (xE c mo ρ h).out ρ fun v h => (xE c mi ρ h).out ρ fun k h => (match setIx v k w h with
    | some h' => .nx ρ h'
    | none => .bad)) q fun j ρ hm w y H1 re rh r P => ?_
  refine ⟨j, ρ, hm, re, rh, (OutP.bind re P).mono fun b H2 ⟨j2, hm2, a, f2, rh2, r2, P2⟩ => ?_⟩
  refine ⟨j2, ρ, hm2, re.mono f2, rh2, (OutP.bind (re.mono f2) P2).mono fun b3 H3 ⟨j3, hm3, a3, f3, rh3, r3, P3⟩ => ?_⟩
  split at P3
  · rename_i h' e2
    exact ⟨j3, hm3, a, a3, w, h', rh3, r2.mono f3, r3, r.mono (f2.trans f3), e2, fun j4 H4 f4 rh4 => P3 j4 H4 σ f4 rh4 (re.mono (f2.trans (f3.trans f4)))⟩
  · exact P3.elim
/-! ### a, b, .. = e -/
def gNames (is : List Nat) : TGs := fun vs σ H Q => vs.length = is.length ∧ Q ((is.zip vs).foldl (fun σ p => σ.set p.1 (some p.2)) σ) H
theorem PGs.weak {es : List Expr} {t t' : TGs} (h : PGs X es t) (w : ∀ v σ H Q, t' v σ H Q → t v σ H Q) : PGs X es t' := ⟨fun pins s σ H vs us Q I r q => h.run pins s σ H vs us Q I r (w vs σ H Q q)⟩
/-- the names of a target and their slots -/
def namesB (N : List Str) (sc : Scope) (fn : Str → Bool) : List Expr → List Nat → Bool
  | [], [] => true
  | .Name x _ :: es, i :: is => (N[i]? == some x) && locB sc x && (fn x || (sc.names.lookup x == some .local)) && namesB N sc fn es is
  | _, _ => false
theorem names_of (C : Sur G k N sc cm X) {fn : Str → Bool} (hfn : ∀ x, fn x = true → X.fn x = true) : ∀ (es : List Expr) (is : List Nat), namesB N sc fn es is = true → PGs X es (gNames is) ∧ (assignEach es X.env).length = is.length ∧ (assignEach es X.env).findIdx? (·.1) = none
  | [], [], _ => ⟨PGs.weak pgs_nil fun vs σ H Q ⟨h1, h2⟩ => by
      cases vs with
      | nil => exact ⟨rfl, h2⟩
      | cons _ _ => simp at h1, rfl, rfl⟩
  | .Name x p :: es, i :: is, h => by
    simp only [namesB, Bool.and_eq_true, Bool.or_eq_true, beq_iff_eq] at h
    obtain ⟨⟨⟨h1, h2⟩, h3⟩, h4⟩ := h
    obtain ⟨q1, q2, q3⟩ := names_of C hfn es is h4
    have hf : X.fn x = true ∨ X.env.scope.names.lookup x = some .local := by
      rcases h3 with h3 | h3
      · exact .inl (hfn x h3)
      · exact .inr (by rw [C.sc]; exact h3)
    refine ⟨PGs.weak (pgs_cons (pg_name (i := i) (by rw [C.ns]; exact C.nd) (by rw [C.ns]; exact h1) (by rw [C.sc]; exact loc_of h2) hf) q1) fun vs σ H Q ⟨h5, h6⟩ => ?_, ?_, ?_⟩
    · cases vs with
      | nil => simp at h5
      | cons v vs => exact ⟨v, vs, rfl, by simpa using h5, h6⟩
    · show (assignEach es X.env).length + 1 = is.length + 1
      rw [q2]
    · show List.findIdx? (·.1) ((false, assign (.Name x p) X.env) :: assignEach es X.env) = none
      rw [List.findIdx?_cons, q3]
      rfl
  | [], _ :: _, h => by simp [namesB] at h
  | e :: es, [], h => by cases e <;> simp [namesB] at h
  | .Constant _ _ _ :: _, _ :: _, h => by simp [namesB] at h
  | .Attribute _ _ _ :: _, _ :: _, h => by simp [namesB] at h
  | .Subscript _ _ _ :: _, _ :: _, h => by simp [namesB] at h
  | .Tuple _ _ _ :: _, _ :: _, h => by simp [namesB] at h
  | e :: es, i :: is, h => by
    cases e with
    | Name x p =>
      simp only [namesB, Bool.and_eq_true, Bool.or_eq_true, beq_iff_eq] at h
      obtain ⟨⟨⟨h1, h2⟩, h3⟩, h4⟩ := h
      obtain ⟨q1, q2, q3⟩ := names_of C hfn es is h4
      have hf : X.fn x = true ∨ X.env.scope.names.lookup x = some .local := by
        rcases h3 with h3 | h3
        · exact .inl (hfn x h3)
        · exact .inr (by rw [C.sc]; exact h3)
      refine ⟨PGs.weak (pgs_cons (pg_name (i := i) (by rw [C.ns]; exact C.nd) (by rw [C.ns]; exact h1) (by rw [C.sc]; exact loc_of h2) hf) q1) fun vs σ H Q ⟨h5, h6⟩ => ?_, ?_, ?_⟩
      · cases vs with
        | nil => simp at h5
        | cons v vs => exact ⟨v, vs, rfl, by simpa using h5, h6⟩
      · show (assignEach es X.env).length + 1 = is.length + 1
        rw [q2]
      · show List.findIdx? (·.1) ((false, assign (.Name x p) X.env) :: assignEach es X.env) = none
        rw [List.findIdx?_cons, q3]
        rfl
    | _ => simp [namesB] at h
theorem RE.fold : ∀ (is : List Nat) {ms : List MV} {vs : List V} {ρ : MEnv} {σ : L2.St}, RE G j H xc ρ σ → VRs G j H ms vs → RE G j H xc ((is.zip ms).foldl (fun σ p => σ.set p.1 (some p.2)) ρ) ((is.zip vs).foldl (fun σ p => σ.set p.1 (some p.2)) σ)
  | [], _, _, _, _, re, _ => by simpa using re
  | i :: is, _, _, _, _, re, .nil => by simpa using re
  | i :: is, _, _, _, _, re, .cons r rs => by
    simp only [List.zip_cons_cons, List.foldl_cons]
    exact RE.fold is (re.set r i) rs
/-- the slots that a target sets -/
def tgIx : MT → List Nat
  | .name i => [i]
  | .two a b => tgIx a ++ tgIx b
  | .tup is => is
theorem wipe_get {σ : L2.St} {i : Nat} : ∀ {vs : List Nat}, (wipe σ vs)[i]? = if i ∈ vs ∧ i < σ.length then some none else σ[i]?
  | [] => by simp [wipe]
  | v :: vs => by
    unfold wipe
    by_cases h : v = i
    · subst h
      by_cases hv : v < σ.length
      · rw [List.getElem?_set_self (by rw [wipe_length]; exact hv), if_pos ⟨by simp, hv⟩]
      · rw [if_neg (fun z => hv z.2), List.getElem?_eq_none (by rw [List.length_set, wipe_length]; omega), List.getElem?_eq_none (by omega)]
    · rw [List.getElem?_set_ne h, wipe_get (vs := vs)]
      have : (i ∈ v :: vs ∧ i < σ.length) ↔ (i ∈ vs ∧ i < σ.length) := by
        simp only [List.mem_cons]
        constructor
        · rintro ⟨h1 | h1, h2⟩
          · exact absurd h1.symm h
          · exact ⟨h1, h2⟩
        · rintro ⟨h1, h2⟩; exact ⟨.inr h1, h2⟩
      by_cases hh : i ∈ vs ∧ i < σ.length
      · rw [if_pos hh, if_pos (this.mpr hh)]
      · rw [if_neg hh, if_neg (fun z => hh (this.mp z))]
theorem wipe_set {σ : L2.St} {i : Nat} {v : Option V} {own : List Nat} (h : i ∈ own) : wipe (σ.set i v) own = wipe σ own := by
  apply List.ext_getElem?
  intro k
  rw [wipe_get, wipe_get, List.length_set]
  by_cases hk : k ∈ own ∧ k < σ.length
  · rw [if_pos hk, if_pos hk]
  · rw [if_neg hk, if_neg hk]
    by_cases e : i = k
    · subst e
      have : ¬ i < σ.length := fun z => hk ⟨h, z⟩
      rw [List.getElem?_eq_none (by rw [List.length_set]; omega), List.getElem?_eq_none (by omega)]
    · rw [List.getElem?_set_ne e]
theorem wipe_fold {own : List Nat} : ∀ (is : List Nat) (vs : List V) (σ : L2.St), (∀ i ∈ is, i ∈ own) → wipe ((is.zip vs).foldl (fun σ p => σ.set p.1 (some p.2)) σ) own = wipe σ own
  | [], _, _, _ => by simp
  | i :: is, [], _, _ => by simp
  | i :: is, v :: vs, σ, h => by
    simp only [List.zip_cons_cons, List.foldl_cons]
    rw [wipe_fold is vs _ fun a ha => h a (List.mem_cons_of_mem _ ha), wipe_set (h i (List.mem_cons_self ..))]
/-- a store's reading, the slots that stay told -/
def gW (G : Glb) (xc : Xc) (mt : MT) : TG := fun x σ H Q => ∃ j ρ m ρ', RE G j H xc ρ σ ∧ VR G j H m x ∧ setT mt m ρ = some ρ' ∧ ∀ σ', RE G j H xc ρ' σ' → (∀ own, (∀ i ∈ tgIx mt, i ∈ own) → wipe σ' own = wipe σ own) → Q σ' H
def tgB (N : List Str) (sc : Scope) (fn : Str → Bool) (cm : Bool) : Expr → MT → Bool
  | .Name x _, .name i => (N[i]? == some x) && locB sc x && (fn x || (sc.names.lookup x == some .local))
  | .Tuple es _ _, .tup is => cm && namesB N sc fn es is
  | _, _ => false
theorem g_tg (C : Sur G k N sc cm X) {fn : Str → Bool} (hfn : ∀ x, fn x = true → X.fn x = true) {tg : Expr} {mt : MT} (h : tgB N sc fn cm tg mt = true) : PG X tg (gW G xc mt) := by
  unfold tgB at h
  split at h
  · rename_i x p i
    simp only [Bool.and_eq_true, Bool.or_eq_true, beq_iff_eq] at h
    obtain ⟨⟨h1, h2⟩, h3⟩ := h
    have hf : X.fn x = true ∨ X.env.scope.names.lookup x = some .local := by
      rcases h3 with h3 | h3
      · exact .inl (hfn x h3)
      · exact .inr (by rw [C.sc]; exact h3)
    refine PG.weak (pg_name (i := i) (by rw [C.ns]; exact C.nd) (by rw [C.ns]; exact h1) (by rw [C.sc]; exact loc_of h2) hf) fun v σ H Q ⟨j, ρ, m, ρ', re, r, e, q⟩ => ?_
    simp only [setT] at e
    cases e
    exact q _ (re.set r i) fun own ho => wipe_set (ho i (by simp [tgIx]))
  · rename_i es n p is
    rw [Bool.and_eq_true] at h
    obtain ⟨q1, q2, q3⟩ := names_of C hfn es is h.2
    refine PG.weak (pg_tup (C.calm h.1) q1 q2 q3) fun v σ H Q ⟨j, ρ, m, ρ', re, r, e, q⟩ => ?_
    simp only [setT] at e
    split at e
    · rename_i vs
      split at e
      · rename_i hl
        cases e
        obtain ⟨a, xs, rfl, h1, h2⟩ := r.tup_inv
        have hl' : xs.length = is.length := by rw [← h2.length]; exact hl
        exact ⟨a, xs, rfl, by rw [C.g.K]; exact h1, hl', hl', q _ (RE.fold is re h2) fun own ho => wipe_fold is xs σ ho⟩
      · cases e
    · cases e
  · cases h
theorem gM_of {tg : Expr} {mt : MT} (h : PG X tg (gW G xc mt)) : PG X tg (gM G xc (setT mt)) := PG.weak h fun v σ H Q ⟨j, ρ, m, ρ', re, r, e, q⟩ => ⟨j, ρ, m, ρ', re, r, e, fun σ' re' _ => q σ' re'⟩
/-! ### while -/
theorem whF_eq {cf : MEnv → MH → R Bool} {b : MEnv → MH → Out} {ρ : MEnv} {hm : MH} : whF cf b ρ hm = .bad ∨ Wh cf b ρ hm (whF cf b ρ hm) := by
  unfold whF
  split
  · rename_i x
    exact .inr x.choose_spec
  · exact .inl rfl
/-- how many turns -/
inductive WhN (cf : MEnv → MH → R Bool) (b : MEnv → MH → Out) (Z : Out) : Nat → MEnv → MH → Prop
  | no {ρ h h' n} : cf ρ h = .ok false h' → Z = .nx ρ h' → WhN cf b Z n ρ h
  | cexc {ρ h x h' n} : cf ρ h = .exc x h' → Z = .ex x ρ h' → WhN cf b Z n ρ h
  | nx {ρ h h1 σ2 h2 n} : cf ρ h = .ok true h1 → b ρ h1 = .nx σ2 h2 → WhN cf b Z n σ2 h2 → WhN cf b Z (n + 1) ρ h
  | ct {ρ h h1 σ2 h2 n} : cf ρ h = .ok true h1 → b ρ h1 = .ct σ2 h2 → WhN cf b Z n σ2 h2 → WhN cf b Z (n + 1) ρ h
  | bk {ρ h h1 σ2 h2 n} : cf ρ h = .ok true h1 → b ρ h1 = .bk σ2 h2 → Z = .nx σ2 h2 → WhN cf b Z n ρ h
  | rt {ρ h h1 v h2 n} : cf ρ h = .ok true h1 → b ρ h1 = .rt v h2 → Z = .rt v h2 → WhN cf b Z n ρ h
  | ex {ρ h h1 x σ2 h2 n} : cf ρ h = .ok true h1 → b ρ h1 = .ex x σ2 h2 → Z = .ex x σ2 h2 → WhN cf b Z n ρ h
theorem whN_of {cf : MEnv → MH → R Bool} {b : MEnv → MH → Out} {ρ : MEnv} {hm : MH} {Z : Out} (h : Wh cf b ρ hm Z) : ∃ n, WhN cf b Z n ρ hm := by
  induction h with
  | no h => exact ⟨0, .no h rfl⟩
  | cexc h => exact ⟨0, .cexc h rfl⟩
  | nx h1 h2 _ ih => obtain ⟨n, q⟩ := ih; exact ⟨n + 1, .nx h1 h2 q⟩
  | ct h1 h2 _ ih => obtain ⟨n, q⟩ := ih; exact ⟨n + 1, .ct h1 h2 q⟩
  | bk h1 h2 => exact ⟨0, .bk h1 h2 rfl⟩
  | rt h1 h2 => exact ⟨0, .rt h1 h2 rfl⟩
  | ex h1 h2 => exact ⟨0, .ex h1 h2 rfl⟩
theorem s_wh {t : Expr} {body : List Stmt} {pos : Pos} {mt : ME} {mb : MSs} (po : PassesOwn (model X.prog X.w) X.A X.env X.xe) (ht : PT X t (tT G xc W c mt)) (hb : PSs X body (tS G xc W (xB c mb))) : PS X (.While t body [] pos) (tS G xc W (xS c (.wh mt mb))) := by
  refine PS.weak (ps_while po ht hb) fun D σ H ⟨j, ρ, hm, re, rh, P⟩ => ?_
  simp only [xS] at P
  rcases whF_eq (cf := xT c mt) (b := xB c mb) (ρ := ρ) (hm := hm) with e | e
  · rw [e] at P; exact P.elim
  · generalize whF (xT c mt) (xB c mb) ρ hm = Z at e P
    obtain ⟨n, hn⟩ := whN_of e
    refine ⟨fun n σ H => ∃ j ρ hm, RE G j H xc ρ σ ∧ RH G j H hm ∧ OutP G xc W D j H Z ∧ WhN (xT c mt) (xB c mb) Z n ρ hm, ⟨n, j, ρ, hm, re, rh, P, hn⟩, ?_⟩
    rintro n σ H ⟨j, ρ, hm, re, rh, P, hn⟩
    refine ⟨j, ρ, hm, re, rh, ?_⟩
    have turn : ∀ {n' : Nat} {h1 : MH}, (∀ σ2 h2, (xB c mb ρ h1 = .nx σ2 h2 ∨ xB c mb ρ h1 = .ct σ2 h2) → n = n' + 1 ∧ WhN (xT c mt) (xB c mb) Z n' σ2 h2) → (∀ σ2 h2, xB c mb ρ h1 = .bk σ2 h2 → Z = .nx σ2 h2) →
        (∀ v h2, xB c mb ρ h1 = .rt v h2 → Z = .rt v h2) → (∀ x σ2 h2, xB c mb ρ h1 = .ex x σ2 h2 → Z = .ex x σ2 h2) → xB c mb ρ h1 ≠ .bad → ∀ j' H', Fut j H j' H' → RH G j' H' h1 →
        ∃ N : L2.St → Hp → Prop, (∀ σ' H', N σ' H' → ∃ m', m' < n ∧ ∃ j ρ hm, RE G j H' xc ρ σ' ∧ RH G j H' hm ∧ OutP G xc W D j H' Z ∧ WhN (xT c mt) (xB c mb) Z m' ρ hm) ∧ tS G xc W (xB c mb) { D with nx := N, ct := N, bk := D.nx } σ H' := by
      intro n' h1 q1 q2 q3 q4 q5 j' H' f rh'
      refine ⟨fun σ' H2 => ∃ j2 ρ2 hm2, RE G j2 H2 xc ρ2 σ' ∧ RH G j2 H2 hm2 ∧ OutP G xc W D j2 H2 Z ∧ n = n' + 1 ∧ WhN (xT c mt) (xB c mb) Z n' ρ2 hm2, fun σ' H2 ⟨j2, ρ2, hm2, a1, a2, a3, a4, a5⟩ => ⟨n', by omega, j2, ρ2, hm2, a1, a2, a3, a5⟩, j', ρ, h1, re.mono f, rh', ?_⟩
      have P' := P.fut f
      cases e : xB c mb ρ h1 with
      | nx σ2 h2 => exact fun j2 H2 σ' f2 rh2 re2 => ⟨j2, σ2, h2, re2, rh2, P'.fut f2, q1 _ _ (.inl e)⟩
      | ct σ2 h2 => exact fun j2 H2 σ' f2 rh2 re2 => ⟨j2, σ2, h2, re2, rh2, P'.fut f2, q1 _ _ (.inr e)⟩
      | bk σ2 h2 =>
        rw [q2 _ _ e] at P'
        exact P'
      | rt v h2 =>
        rw [q3 _ _ e] at P'
        exact P'
      | ex x σ2 h2 =>
        rw [q4 _ _ _ e] at P'
        exact P'
      | bad => exact absurd e q5
    cases hn with
    | no h1 h2 =>
      rw [h1]
      subst h2
      rintro j' H' b f rh' rfl
      exact iteF ((P.fut f).nx (re.mono f) rh')
    | cexc h1 h2 =>
      rw [h1]
      subst h2
      exact fun j' H' cls d f rh' xr => P j' H' cls d σ f rh' (re.mono f) xr
    | @nx _ _ hh σs hs m h1 h2 h3 =>
      rw [h1]
      rintro j' H' b f rh' rfl
      refine iteT (turn (n' := m) (h1 := hh) (fun σ2 h2' z => ?_) (fun _ _ z => ?_) (fun _ _ z => ?_) (fun _ _ _ z => ?_) ?_ j' H' f rh') <;> first | (rw [h2] at z) | (rw [h2])
      · rcases z with z | z <;> cases z
        exact ⟨rfl, h3⟩
      · cases z
      · cases z
      · cases z
      · exact fun z => nomatch z
    | @ct _ _ hh σs hs m h1 h2 h3 =>
      rw [h1]
      rintro j' H' b f rh' rfl
      refine iteT (turn (n' := m) (h1 := hh) (fun σ2 h2' z => ?_) (fun _ _ z => ?_) (fun _ _ z => ?_) (fun _ _ _ z => ?_) ?_ j' H' f rh') <;> first | (rw [h2] at z) | (rw [h2])
      · rcases z with z | z <;> cases z
        exact ⟨rfl, h3⟩
      · cases z
      · cases z
      · cases z
      · exact fun z => nomatch z
    | @bk _ _ hh σs hs _ h1 h2 h3 =>
      rw [h1]
      rintro j' H' b f rh' rfl
      refine iteT (turn (n' := 0) (h1 := hh) (fun σ2 h2' z => ?_) (fun _ _ z => ?_) (fun _ _ z => ?_) (fun _ _ _ z => ?_) ?_ j' H' f rh') <;> first | (rw [h2] at z) | (rw [h2])
      · rcases z with z | z <;> cases z
      · cases z
        exact h3
      · cases z
      · cases z
      · exact fun z => nomatch z
    | @rt _ _ hh σs hs _ h1 h2 h3 =>
      rw [h1]
      rintro j' H' b f rh' rfl
      refine iteT (turn (n' := 0) (h1 := hh) (fun σ2 h2' z => ?_) (fun _ _ z => ?_) (fun _ _ z => ?_) (fun _ _ _ z => ?_) ?_ j' H' f rh') <;> first | (rw [h2] at z) | (rw [h2])
      · rcases z with z | z <;> cases z
      · cases z
      · cases z
        exact h3
      · cases z
      · exact fun z => nomatch z
    | @ex _ _ hh σs hs _ _ h1 h2 h3 =>
      rw [h1]
      rintro j' H' b f rh' rfl
      refine iteT (turn (n' := 0) (h1 := hh) (fun σ2 h2' z => ?_) (fun _ _ z => ?_) (fun _ _ z => ?_) (fun _ _ _ z => ?_) ?_ j' H' f rh') <;> first | (rw [h2] at z) | (rw [h2])
      · rcases z with z | z <;> cases z
      · cases z
      · cases z
      · cases z
        exact h3
      · exact fun z => nomatch z
end
end Mi
/-! MS12: for loops, list comprehensions. -/
namespace Mi
open PySem PySem.Spec PyProof.Rows L2

section
variable {G : Glb} {xc : Xc} {W : WX} {D : Ends} {c : Cfg} {k : Nat} {N : List Str} {sc : Scope} {cm : Bool} {X : Cx} {j j' : List Addr} {H H' : Hp} {tg : Expr}
/-- an iteration of the layer over these values, under a guard; A: what stays -/
structure IterOk (G : Glb) (J : It) (g : Gd) (vs : List MV) (A : List Addr → Hp → Prop) : Prop where
  nl : ∀ n, g ≠ .lock n
  mono : ∀ {j H j' H'}, A j H → Fut j H j' H' → A j' H'
  go : ∀ {j H hm i}, A j H → RH G j H hm → g.ok hm = true → i < vs.length → J.go i H
  yld : ∀ {j H hm i m x H'}, A j H → RH G j H hm → g.ok hm = true → vs[i]? = some m → J.yld i H x H' → ∃ j', Fut j H j' H' ∧ RH G j' H' hm ∧ VR G j' H' m x
  stop : ∀ {j H hm}, A j H → RH G j H hm → g.ok hm = true → J.stop vs.length H
abbrev RelI (G : Glb) : List Addr → Hp → List MV × Gd → It → Prop := fun j H vg J => ∃ A : List Addr → Hp → Prop, A j H ∧ IterOk G J vg.2 vg.1 A
abbrev tI (G : Glb) (xc : Xc) (W : WX) (c : Cfg) (it : MI) : TI := tX G xc W (RelI G) (xI c it)
theorem PI.weak {it : Expr} {t t' : TI} (h : PI X tg it t) (w : ∀ σ H Q, t' σ H Q → t σ H Q) : PI X tg it t' := ⟨fun pins s σ H Q I q => h.run pins s σ H Q I (w σ H Q q)⟩

theorem it_list {n : Nat} {a : Addr} {vs : List MV} : IterOk G (Itl G.K a) (.obj n (.lst vs)) vs (fun j _ => j[n]? = some a) where
  nl := fun _ z => nomatch z
  mono := fun h f => f.get h
  go := fun {j H hm i} h r g hi => by
    have g : hm[n]? = some (.lst vs) := of_decide_eq_true g
    obtain ⟨xs, h1, h2⟩ := r.ob n _ a g h
    exact ⟨xs, xs[i]'(by rw [← h2.length]; exact hi), SqL.of h1, List.getElem?_eq_getElem _⟩
  yld := fun {j H hm i m x H'} h r g hm' y => by
    have g : hm[n]? = some (.lst vs) := of_decide_eq_true g
    obtain ⟨xs, h1, h2⟩ := r.ob n _ a g h
    obtain ⟨rfl, y⟩ := y
    obtain ⟨v, e1, e2⟩ := h2.get hm'
    have := y xs (SqL.of h1)
    rw [e1] at this
    cases this
    exact ⟨j, Fut.refl _ _, r, e2⟩
  stop := fun {j H hm} h r g => by
    have g : hm[n]? = some (.lst vs) := of_decide_eq_true g
    obtain ⟨xs, h1, h2⟩ := r.ob n _ a g h
    exact ⟨xs, SqL.of h1, by rw [h2.length]; exact Nat.le_refl _⟩
theorem sqP_inj {H : Hp} {K : PySem.W.Frag} {a : Addr} {xs ys : List V} (h : SqP K H a xs) (h' : SqL K H a ys) (hk : ∀ o, K.lookup a = some o → H a = none) : xs = ys := by
  rcases h with ⟨o, h⟩ | ⟨o, its, n, h1, h2, h3, h4, h5, h6⟩
  · rcases h' with (h' | ⟨o', h'⟩) | ⟨o', its', n', e1, _, _, _, _, _⟩
    · rw [h] at h'; cases h'
    · rw [h] at h'; cases h'; rfl
    · rw [hk _ e1] at h; cases h
  · rcases h' with (h' | ⟨o', h'⟩) | ⟨o', its', n', e1, _, _, e4, _, e6⟩
    · rw [hk _ h1] at h'; cases h'
    · rw [hk _ h1] at h'; cases h'
    · rw [h1] at e1
      cases e1
      rw [h4] at e4
      cases e4
      exact Vals.inj h6 e6
theorem it_rol {a : Addr} {vs : List MV} {xs : List V} : IterOk G (Itl G.K a) .free vs (fun j H => SqP G.K H a xs ∧ VRs G j H vs xs) where
  nl := fun _ z => nomatch z
  mono := fun h f => ⟨f.sqP h.1, h.2.mono f⟩
  go := fun {j H hm i} h r g hi => ⟨xs, xs[i]'(by rw [← h.2.length]; exact hi), h.1.sq, List.getElem?_eq_getElem _⟩
  yld := fun {j H hm i m x H'} h r g hm' y => by
    obtain ⟨rfl, y⟩ := y
    obtain ⟨v, e1, e2⟩ := h.2.get hm'
    have := y xs h.1.sq
    rw [e1] at this
    cases this
    exact ⟨j, Fut.refl _ _, r, e2⟩
  stop := fun {j H hm} h r g => ⟨xs, h.1.sq, by rw [h.2.length]; exact Nat.le_refl _⟩
theorem it_tup {a : Addr} {vs : List MV} {xs : List V} : IterOk G (Itt G.K a) .free vs (fun j H => SqT G.K H a xs ∧ VRs G j H vs xs) where
  nl := fun _ z => nomatch z
  mono := fun h f => ⟨f.sqT h.1, h.2.mono f⟩
  go := fun {j H hm i} h r g hi => ⟨xs, xs[i]'(by rw [← h.2.length]; exact hi), h.1, List.getElem?_eq_getElem _⟩
  yld := fun {j H hm i m x H'} h r g hm' y => by
    obtain ⟨rfl, y⟩ := y
    obtain ⟨v, e1, e2⟩ := h.2.get hm'
    have := y xs h.1
    rw [e1] at this
    cases this
    exact ⟨j, Fut.refl _ _, r, e2⟩
  stop := fun {j H hm} h r g => ⟨xs, h.1, by rw [h.2.length]; exact Nat.le_refl _⟩
theorem it_rng {lo : Int} {n : Nat} : IterOk G (Itr lo n) .free (rangeV lo n) (fun _ _ => True) where
  nl := fun _ z => nomatch z
  mono := fun _ _ => trivial
  go := fun {j H hm i} h r g hi => by
    unfold rangeV at hi
    rw [List.length_map, List.length_range] at hi
    exact hi
  yld := fun {j H hm i m x H'} h r g hm' y => by
    obtain ⟨rfl, rfl⟩ := y
    unfold rangeV at hm'
    rw [List.getElem?_map] at hm'
    cases e : (List.range n)[i]? with
    | none => rw [e] at hm'; cases hm'
    | some z =>
      rw [e] at hm'
      cases hm'
      have := List.getElem?_eq_some_iff.mp e
      obtain ⟨h1, h2⟩ := this
      simp at h2
      subst h2
      exact ⟨j, Fut.refl _ _, r, .int _⟩
  stop := fun {j H hm} h r g => by
    show n ≤ (rangeV lo n).length
    unfold rangeV
    rw [List.length_map, List.length_range]
    exact Nat.le_refl _
/-- for x in e: a list or a tuple -/
theorem p_seq {e : Expr} {me : ME} (C : Sur G k N sc cm X) (h : PE X e (tE G xc W c me)) : PI X tg e (tI G xc W c (.seq me)) := by
  refine ⟨fun pins s σ H R I q => ?_⟩
  have q : tX G xc W (RelI G) (fun ρ h => (xE c me ρ h).bind fun v h => (match v with
    | .tup vs => .ok (vs, .free) h
    | .rol vs => .ok (vs, .free) h
    | .ref n => (match h[n]? with
      | some (.lst vs) => .ok (vs, .obj n (.lst vs)) h
      | _ => .bad)
    | _ => .bad)) σ H R := q.of fun _ _ => by simp only [xI] <;> rfl
  refine thn (h.run pins s σ H (fun x H1 => ∃ a xs, x = .ref a ∧ ((SqL G.K H1 a xs ∧ R (Itl G.K a) H1) ∨ (SqT G.K H1 a xs ∧ R (Itt G.K a) H1))) I (q.bind (k := fun ρ v h => _) fun j ρ hm v y H1 re rh r1 P => ?_)) fun v s1 ⟨x, H1, I1, r1, a, xs, ex, q1⟩ => ?_
  · split at P
    · obtain ⟨a, xs, rfl, h1, h2⟩ := r1.tup_inv
      exact ⟨a, xs, rfl, .inr ⟨h1, Post.ok (Rel := RelI G) P rh ⟨_, ⟨h1, h2⟩, it_tup⟩⟩⟩
    · obtain ⟨a, xs, rfl, h1, h2⟩ := r1.rol_inv
      exact ⟨a, xs, rfl, .inl ⟨h1.sq, Post.ok (Rel := RelI G) P rh ⟨_, ⟨h1, h2⟩, it_rol⟩⟩⟩
    · split at P
      · rename_i n vs e
        obtain ⟨a, xs, rfl, hj, h1, h2⟩ := rh.lst e r1
        exact ⟨a, xs, rfl, .inl ⟨SqL.of h1, Post.ok (Rel := RelI G) P rh ⟨_, hj, it_list⟩⟩⟩
      · exact P.elim
    · exact P.elim
  · subst ex
    cases r1
    rcases q1 with ⟨hq, q⟩ | ⟨hq, q⟩
    · obtain ⟨its, rv, p, hz⟩ := I1.list (by rw [C.g.K]; exact hq)
      refine wpAny_pyIter_list p.isList ?_
      refine ⟨s1.heap.objs.size, [s1.heap.objs.size], _, _, H1, rfl, I1.kept (t' := s1.toks) fun b o e => Heap.get?_push_of_some _ e, turn_list a _, ⟨_, Heap.get?_push_size _ rfl, rfl, rfl⟩, fun b hb => ?_, by rw [C.g.K]; exact q⟩
      have e : b = s1.heap.objs.size := by simpa using hb
      subst e
      exact I1.fpOk (Nat.le_refl _) (I1.hok.fresh (Nat.le_refl _))
    · obtain ⟨its, rv, p, hz⟩ := I1.tuple (by rw [C.g.K]; exact hq)
      refine wpAny_pyIter_tuple (show s1.heap.IsTuple a its.toArray from p) ?_
      refine ⟨s1.heap.objs.size, [s1.heap.objs.size], _, _, H1, rfl, I1.kept (t' := s1.toks) fun b o e => Heap.get?_push_of_some _ e, turn_tuple a _, ⟨_, Heap.get?_push_size _ rfl, rfl, rfl⟩, fun b hb => ?_, by rw [C.g.K]; exact q⟩
      have e : b = s1.heap.objs.size := by simpa using hb
      subst e
      exact I1.fpOk (Nat.le_refl _) (I1.hok.fresh (Nat.le_refl _))
theorem p_rng1 {a : Expr} {p pos : Pos} {mes : MEs} (C : Sur G k N sc cm X) (h2 : G.mg "range" = none) (g2 : glB sc "range" = true) (hs : starB a = true) (hl0 : mes.len = 1) (h : PA X [a] (tEs G xc W c mes)) : PI X tg (.Call (.Name "range" p) [a] [] pos) (tI G xc W c (.rng mes)) := by
  refine PI.weak (pi_range1 (gl_of C.sc g2) (by rw [C.g.mg]; exact h2) h (star_cons hs)) fun σ H R q => ?_
  have q : tX G xc W (RelI G) (fun ρ h => (xEs c mes ρ h).bind fun vs h => (match rngOf vs with
    | some xs => .ok (xs, .free) h
    | none => .bad)) σ H R := q.of fun _ _ => by simp only [xI] <;> rfl
  refine q.args (kk := fun ρ vs h => _) fun j ρ hm vs xs H1 re rh hl r1 P => ?_
  split at P
  · rename_i ys e
    unfold rngOf at e
    split at e
    · rename_i n
      split at e
      · rename_i hn
        cases e
        obtain ⟨x, rfl, hx⟩ := VRs.one r1
        cases hx.int_inv
        exact ⟨n, rfl, hn.1, hn.2, Post.ok (Rel := RelI G) P rh ⟨_, trivial, it_rng⟩⟩
      · cases e
    · (rw [hl0] at hl; simp at hl)
    · cases e
  · exact P.elim
theorem p_rng2 {a b : Expr} {p pos : Pos} {mes : MEs} (C : Sur G k N sc cm X) (h2 : G.mg "range" = none) (g2 : glB sc "range" = true) (hs : starB a = true) (hs2 : starB b = true) (hl0 : mes.len = 2) (h : PA X [a, b] (tEs G xc W c mes)) : PI X tg (.Call (.Name "range" p) [a, b] [] pos) (tI G xc W c (.rng mes)) := by
  have e1 : starEach [a, b] X.env = [(false, eval a X.env), (false, eval b X.env)] := by rw [star_cons hs, star_cons hs2]; rfl
  have e2 : starEach [b] X.env = [(false, eval b X.env)] := by rw [star_cons hs2]; rfl
  refine PI.weak (pi_range2 (gl_of C.sc g2) (by rw [C.g.mg]; exact h2) h e1 e2) fun σ H R q => ?_
  have q : tX G xc W (RelI G) (fun ρ h => (xEs c mes ρ h).bind fun vs h => (match rngOf vs with
    | some xs => .ok (xs, .free) h
    | none => .bad)) σ H R := q.of fun _ _ => by simp only [xI] <;> rfl
  refine q.args (kk := fun ρ vs h => _) fun j ρ hm vs xs H1 re rh hl r1 P => ?_
  split at P
  · rename_i ys e
    unfold rngOf at e
    split at e
    · (rw [hl0] at hl; simp at hl)
    · rename_i n m
      split at e
      · rename_i hn
        cases e
        obtain ⟨x, y, rfl, hx, hy⟩ := VRs.two r1
        cases hx.int_inv
        cases hy.int_inv
        exact ⟨n, m, rfl, hn, Post.ok (Rel := RelI G) P rh ⟨_, trivial, it_rng⟩⟩
      · cases e
    · cases e
  · exact P.elim
theorem offO_id {g : Gd} (h : ∀ n, g ≠ .lock n) (o : Out) : g.offO o = o := by
  cases g with
  | lock n => exact absurd rfl (h n)
  | free => cases o <;> rfl
  | obj n u => cases o <;> rfl
/-- for t in it: body -/
theorem s_loop {it : Expr} {body : List Stmt} {pos : Pos} {mt : MT} {mi : MI} {mb : MSs} (po : PassesOwn (model X.prog X.w) X.A X.env X.xe) (hc : X.calm = true) (hi : PI X tg it (tI G xc W c mi)) (hg : PG X tg (gM G xc (setT mt))) (hb : PSs X body (tS G xc W (xB c mb)))
    (hs : ∀ x, foldedSetIterable it X.env x = pure x) : PS X (.For tg it body [] pos) (tS G xc W (xS c (.loop mt mi mb))) := by
  refine PS.weak (ps_for po hc hi hg hb hs) fun D σ H q => ?_
  have q : tS G xc W (fun ρ h => (xI c mi ρ h).out ρ fun vg h => vg.2.offO (loopF vg.2 (fun v σ h => (match setT mt v σ with
      | some σ' => xB c mb σ' h
      | none => .bad)) vg.1 ρ h)) D σ H := q.of fun _ _ => by simp only [xS] <;> rfl
  obtain ⟨j, ρ, hm, re, rh, P⟩ := q
  refine ⟨j, ρ, hm, re, rh, (OutP.bind (Rel := RelI G) re P).mono fun J H1 ⟨j1, hm1, ⟨vs, g⟩, f1, rh1, ⟨A, hA, ok⟩, P1⟩ => ?_⟩
  have ok : IterOk G J g vs A := ok
  have P1 : OutP G xc W D j1 H1 (g.offO (loopF g (fun v σ h => (match setT mt v σ with
      | some σ' => xB c mb σ' h
      | none => .bad)) vs ρ hm1)) := P1
  rw [offO_id ok.nl] at P1
  refine ⟨fun i m σ H => m = vs.length - i ∧ i ≤ vs.length ∧ ∃ j ρ hm, A j H ∧ RE G j H xc ρ σ ∧ RH G j H hm ∧ OutP G xc W D j H (loopF g (fun v σ h => (match setT mt v σ with
      | some σ' => xB c mb σ' h
      | none => .bad)) (vs.drop i) ρ hm), ⟨vs.length, by simp, Nat.zero_le _, j1, ρ, hm1, hA, re.mono f1, rh1, by simpa using P1⟩, ?_⟩
  rintro i m σ H ⟨rfl, hi, j, ρ, hm, hA, re, rh, P⟩
  by_cases hlt : i < vs.length
  · rw [List.drop_eq_getElem_cons hlt] at P
    simp only [loopF] at P
    split at P
    · rename_i hok
      refine .inr ⟨ok.go hA rh hok hlt, fun σ' H' => ∃ j ρ hm, A j H' ∧ RE G j H' xc ρ σ' ∧ RH G j H' hm ∧ OutP G xc W D j H' (loopF g (fun v σ h => (match setT mt v σ with
        | some σ' => xB c mb σ' h
        | none => .bad)) (vs.drop (i + 1)) ρ hm), fun σ' H' q => ⟨vs.length - (i + 1), by omega, rfl, hlt, q⟩, fun x H' y => ?_⟩
      obtain ⟨j', f, rh', r⟩ := ok.yld hA rh hok (List.getElem?_eq_getElem hlt) y
      have P := P.fut f
      have hA := ok.mono hA f
      have re := re.mono f
      cases e : setT mt vs[i] ρ with
      | none =>
        simp only [e] at P
        exact P.elim
      | some ρ' =>
        simp only [e] at P
        refine ⟨j', ρ, _, ρ', re, r, e, fun σ' re' => ⟨j', ρ', hm, re', rh', ?_⟩⟩
        cases e2 : xB c mb ρ' hm with
        | nx ρ2 h2 =>
          simp only [e2] at P
          exact fun j2 H2 σ2 f2 rh2 re2 => ⟨j2, ρ2, h2, ok.mono hA f2, re2, rh2, P.fut f2⟩
        | ct ρ2 h2 =>
          simp only [e2] at P
          exact fun j2 H2 σ2 f2 rh2 re2 => ⟨j2, ρ2, h2, ok.mono hA f2, re2, rh2, P.fut f2⟩
        | bk ρ2 h2 => simp only [e2] at P; exact P
        | rt v h2 => simp only [e2] at P; exact P
        | ex x ρ2 h2 => simp only [e2] at P; exact P
        | bad => simp only [e2] at P; exact P
    · exact P.elim
  · have e : i = vs.length := by omega
    subst e
    rw [List.drop_length] at P
    simp only [loopF] at P
    split at P
    · rename_i hok
      exact .inl ⟨ok.stop hA rh hok, P.nx re rh⟩
    · exact P.elim
end
end Mi
/-! MS13: list comprehensions. -/
namespace Mi
open PySem PySem.Spec PyProof.Rows L2

/-- no wish -/
abbrev W0 : WX := fun _ _ _ _ => False
section
variable {G : Glb} {xc : Xc} {W : WX} {c : Cfg} {k : Nat} {N : List Str} {sc : Scope} {cm : Bool} {X : Cx} {j j' : List Addr} {H H' : Hp} {tg : Expr}
theorem Sur.blk (C : Sur G k N sc cm X) {s : Shared} {H : Hp} {scope : Scope} {cl : List (Str × Addr)} {Cc : Addr} {fp : List Addr} : Sur G k N (relS scope sc) cm (X.blk s H scope (compEnvC scope cl Cc X.env) fp) where
  g := ⟨C.g.prog, C.g.w, C.g.K, C.g.mg, C.g.base⟩
  ns := C.ns
  nd := C.nd
  sc := by
    show relS scope X.env.scope = _
    rw [C.sc]
  hu := C.hu
  calm := C.calm
  room := C.room
theorem RE.wipe {ρ : MEnv} {σ : L2.St} (re : RE G j H xc ρ σ) : ∀ own : List Nat, RE G j H xc (wipeM ρ own) (wipe σ own)
  | [] => re
  | v :: vs => (RE.wipe re vs).unset v
/-- one turn of a comprehension -/
noncomputable def lcStep (c : Cfg) (own : List Nat) (t : MT) (elt : ME) (cond : MO2) (ρ : MEnv) (v : MV) (h : MH) : R (Option MV) := match setT t v (wipeM ρ own) with
  | some σ' => (match cond with
    | .none => (xE c elt σ' h).bind fun y h => .ok (some y) h
    | .some e => (xE c e σ' h).bind fun b h => (match truth b h with
      | some true => (xE c elt σ' h).bind fun y h => .ok (some y) h
      | some false => .ok none h
      | none => .bad))
  | none => .bad
def lcEnd (g : Gd) (r : R MV) : R MV := match r with
  | .ok v h => (match g.off h with
    | some h' => .ok v h'
    | none => .bad)
  | _ => .bad
theorem xE_lc (elt : ME) (own : List Nat) (t : MT) (it : MI) (cond : MO2) (ρ : MEnv) (hm : MH) : xE c (.lc elt own t it cond) ρ hm = (xI c it ρ hm).bind fun vg h => lcEnd vg.2 (lcF vg.2 h.length (lcStep c own t elt cond ρ) vg.1 (h ++ [.lst []])) := by
  simp only [xE] <;> rfl
theorem lcEnd_id {g : Gd} (h : ∀ n, g ≠ .lock n) (r : R MV) : lcEnd g r = lcEnd .free r := by
  cases g with
  | lock n => exact absurd rfl (h n)
  | free => rfl
  | obj n u => cases r <;> rfl
/-- what a turn of the layer's block asks, from one turn of the mini -/
def tCond (xc : Xc) (G : Glb) (c : Cfg) : MO2 → TT
  | .none => tYes
  | .some e => tT G xc W0 c e
theorem lc_weak {wi : TI} {elt : ME} {own : List Nat} {mt : MT} {mi : MI} {cond : MO2} (hown : ∀ i ∈ tgIx mt, i ∈ own) {σ : L2.St} {H : Hp} {Q : VK} (h : tE G xc W c (.lc elt own mt mi cond) σ H Q) :
    tLc (tI G xc W c mi) (gW G xc mt) (tCond xc G c cond) (tE G xc W0 c elt) own σ H Q := by
  have h := h.of (xE_lc elt own mt mi cond)
  obtain ⟨j, ρ, hm, re, rh, P⟩ := h
  refine ⟨j, ρ, hm, re, rh, (Post.bind (Rel := RelI G) P).mono fun J H1 ⟨j1, hm1, ⟨vs, g⟩, f1, rh1, ⟨A, hA, ok⟩, P1⟩ D hD => ?_⟩
  have ok : IterOk G J g vs A := ok
  have P1 : PostV G j1 H1 (fun cls d H' => W cls d σ H') (lcEnd g (lcF g hm1.length (lcStep c own mt elt cond ρ) vs (hm1 ++ [.lst []]))) Q := P1
  rw [lcEnd_id ok.nl] at P1
  have f2 : Fut j1 H1 (j1 ++ [D]) (upd H1 D (.lst [])) := fut_alloc hD
  refine ⟨fun i m H => m = vs.length - i ∧ i ≤ vs.length ∧ ∃ j hm, A j H ∧ RE G j H xc ρ σ ∧ RH G j H hm ∧ j[hm1.length]? = some D ∧
    PostV G j H (fun cls d H' => W cls d σ H') (lcEnd .free (lcF g hm1.length (lcStep c own mt elt cond ρ) (vs.drop i) hm)) Q,
    ⟨vs.length, by simp, Nat.zero_le _, j1 ++ [D], hm1 ++ [.lst []], ok.mono hA f2, (re.mono f1).mono f2, rh1.alloc (o := .lst []) hD ⟨[], upd_same, .nil⟩, len_new rh1 D, by simpa using P1.fut f2⟩, ?_⟩
  rintro i m H ⟨rfl, hi, j, hm, hA, re, rh, hj, P⟩
  by_cases hlt : i < vs.length
  · rw [List.drop_eq_getElem_cons hlt] at P
    simp only [lcF] at P
    split at P
    · rename_i hok
      refine .inr ⟨ok.go hA rh hok hlt, fun H' => ∃ j hm, A j H' ∧ RE G j H' xc ρ σ ∧ RH G j H' hm ∧ j[hm1.length]? = some D ∧
        PostV G j H' (fun cls d H' => W cls d σ H') (lcEnd .free (lcF g hm1.length (lcStep c own mt elt cond ρ) (vs.drop (i + 1)) hm)) Q, fun H' q => ⟨vs.length - (i + 1), by omega, rfl, hlt, q⟩, fun x H' y => ?_⟩
      obtain ⟨j', f, rh', r⟩ := ok.yld hA rh hok (List.getElem?_eq_getElem hlt) y
      have P := P.fut f
      have hA := ok.mono hA f
      have re := re.mono f
      have hj := f.get hj
      have reW := re.wipe own
      -- the element, then the append
      have elem : ∀ {ρ' : MEnv} {σ2 : L2.St} {j3 : List Addr} {H3 : Hp} {hm3 : MH}, Fut j' H' j3 H3 → RE G j3 H3 xc ρ' σ2 → RH G j3 H3 hm3 →
          PostV G j3 H3 (fun cls d H' => W cls d σ H') (lcEnd .free (match (xE c elt ρ' hm3).bind fun y h => R.ok (some y) h with
            | .ok (some y) h' => (match h'[hm1.length]? with
              | some (.lst acc) => if acc.length < sizeLine then lcF g hm1.length (lcStep c own mt elt cond ρ) (vs.drop (i + 1)) (h'.set hm1.length (.lst (acc ++ [y]))) else .bad
              | _ => .bad)
            | .ok none h' => lcF g hm1.length (lcStep c own mt elt cond ρ) (vs.drop (i + 1)) h'
            | _ => .bad)) Q →
          tE G xc W0 c elt σ2 H3 fun y H4 => ∃ acc, H4 D = some (.lst acc) ∧ acc.length < sizeLine ∧ ∃ j hm, A j (upd H4 D (.lst (acc ++ [y]))) ∧ RE G j (upd H4 D (.lst (acc ++ [y]))) xc ρ σ ∧ RH G j (upd H4 D (.lst (acc ++ [y]))) hm ∧ j[hm1.length]? = some D ∧
            PostV G j (upd H4 D (.lst (acc ++ [y]))) (fun cls d H' => W cls d σ H') (lcEnd .free (lcF g hm1.length (lcStep c own mt elt cond ρ) (vs.drop (i + 1)) hm)) Q := by
        intro ρ' σ2 j3 H3 hm3 f3 re3 rh3 P3
        refine ⟨j3, ρ', hm3, re3, rh3, ?_⟩
        cases e : xE c elt ρ' hm3 with
        | ok y hm4 =>
          rw [e] at P3
          intro j4 H4 yv f4 rh4 r4
          simp only [R.bind] at P3
          have P4 := P3.fut f4
          split at P4
          · rename_i acc eacc
            split at P4
            · rename_i hz
              have hj4 : j4[hm1.length]? = some D := f4.get (f3.get hj)
              obtain ⟨xs, h1, h2⟩ := rh4.ob _ _ D eacc hj4
              have f5 := fut_set (j := j4) (u := .lst (xs ++ [yv])) h1 (fun _ z => (nomatch z)) (fun _ _ z => (nomatch z))
              exact ⟨xs, h1, by rw [← h2.length]; exact hz, j4, _, ok.mono (ok.mono (ok.mono hA f3) f4) f5, ((re.mono f3).mono f4).mono f5, rh4.set (o := .lst (acc ++ [y])) hj4 f5 ⟨_, upd_same, (h2.snoc r4).mono f5⟩, hj4, P4.fut f5⟩
            · exact P4.elim
          · exact P4.elim
        | exc x hm4 => rw [e] at P3; exact P3.elim
        | bad => rw [e] at P3; exact P3.elim
      unfold lcStep at P
      cases e : setT mt vs[i] (wipeM ρ own) with
      | none =>
        simp only [e] at P
        exact P.elim
      | some ρ' =>
        simp only [e] at P
        refine ⟨j', _, _, ρ', reW, r, e, fun σ2 re2 hw => ⟨?_, ?_⟩⟩
        · rw [hw own hown]
          apply List.ext_getElem?
          intro q
          rw [wipe_get, wipe_get, wipe_length]
          by_cases hq : q ∈ own ∧ q < σ.length
          · rw [if_pos hq, if_pos hq]
          · rw [if_neg hq, if_neg hq]
        · cases cond with
          | none =>
            simp only at P
            have z := elem (Fut.refl _ _) re2 rh' P
            simp only [tCond, tYes, if_true]
            exact z
          | some me =>
            simp only at P
            refine ⟨j', ρ', _, re2, rh', ?_⟩
            simp only [xT]
            cases e2 : xE c me ρ' hm with
            | ok b hm3 =>
              simp only [e2, R.bind] at P ⊢
              cases e3 : truth b hm3 with
              | none => simp only [e3] at P; exact P.elim
              | some bb =>
                cases bb with
                | true =>
                  simp only [e3] at P ⊢
                  rintro j3 H3 b3 f3 rh3 rfl
                  exact iteT (elem f3 (re2.mono f3) rh3 (P.fut f3))
                | false =>
                  simp only [e3] at P ⊢
                  rintro j3 H3 b3 f3 rh3 rfl
                  exact iteF ⟨j3, hm3, ok.mono hA f3, re.mono f3, rh3, f3.get hj, P.fut f3⟩
            | exc x hm3 => simp only [e2, R.bind] at P; exact P.elim
            | bad => simp only [e2, R.bind] at P; exact P.elim
    · exact P.elim
  · have e : i = vs.length := by omega
    subst e
    rw [List.drop_length] at P
    simp only [lcF] at P
    split at P
    · rename_i hok
      exact .inl ⟨ok.stop hA rh hok, P.ok rh (.ref hj)⟩
    · exact P.elim
/-- what a block's tests are -/
structure BlkT (G : Glb) (xc : Xc) (c : Cfg) (X : Cx) (scope : Scope) (ifs : List Expr) (cond : MO2) : Prop where
  run : ∀ (s : Shared) (H : Hp) (C : Addr) (cl : List (Str × Addr)) (fp : List Addr), PTs (X.blk s H scope (compEnvC scope cl C X.env) fp) ifs (tCond xc G c cond)
def notSet : Expr → Bool
  | .Set _ _ _ => false
  | _ => true
theorem fold_of {it : Expr} {env : Env} (h : notSet it = true) (x : Value) : foldedSetIterable it env x = pure x := by
  cases it <;> first | rfl | exact absurd (show false = true from h) (by decide)
/-- [elt for t in it if ..] -/
theorem s_lc {it elt : Expr} {ifs : List Expr} {scope : Scope} {own : List (Str × Nat)} {pos : Pos} {mi : MI} {mt : MT} {cond : MO2} {me : ME} (C : Sur G k N sc true X) (hi : PI X tg it (tI G xc W c mi)) (hf : notSet it = true) (hb : blkC N sc scope own = true)
    (hg : ∀ (s : Shared) (H : Hp) (C : Addr) (cl : List (Str × Addr)) (fp : List Addr), PG (X.blk s H scope (compEnvC scope cl C X.env) fp) tg (gW G xc mt)) (ht : BlkT G xc c X scope ifs cond)
    (he : ∀ (s : Shared) (H : Hp) (C : Addr) (cl : List (Str × Addr)) (fp : List Addr), PE (X.blk s H scope (compEnvC scope cl C X.env) fp) elt (tE G xc W0 c me)) (hown : ∀ i ∈ tgIx mt, i ∈ own.map (·.2)) :
    PE X (.ListComp elt [⟨tg, it, ifs, 0⟩] scope pos) (tE G xc W c (.lc me (own.map (·.2)) mt mi cond)) :=
  PE.weak (pe_lc (C.calm rfl) (by rw [C.ns]; exact C.nd) hi (by rw [C.ns, C.sc]; exact blkOk_by hb) hg ht.run he (fold_of hf)) fun σ H Q h => lc_weak (wi := tI G xc W c mi) hown h
/-- y = [..] -/
theorem s_setLc {y : Str} {i : Nat} {py pos spos : Pos} {it elt : Expr} {ifs : List Expr} {scope : Scope} {own : List (Str × Nat)} {mi : MI} {mt : MT} {cond : MO2} {me : ME} (C : Sur G k N sc true X) (hk : sc.kind = .function) (hy : N[i]? = some y) (hyl : sc.names.lookup y = some .local) (hl : (py.line == pos.line) = true)
    (ha : (scope.names.any fun (n, k) => n == y && (k == .local || k == .cell)) = false) (hi : PI X tg it (tI G xc W c mi)) (hf : notSet it = true) (hb : blkC N sc scope own = true)
    (hg : ∀ (s : Shared) (H : Hp) (C : Addr) (cl : List (Str × Addr)) (fp : List Addr), PG (X.blk s H scope (compEnvC scope cl C X.env) fp) tg (gW G xc mt)) (ht : BlkT G xc c X scope ifs cond)
    (he : ∀ (s : Shared) (H : Hp) (C : Addr) (cl : List (Str × Addr)) (fp : List Addr), PE (X.blk s H scope (compEnvC scope cl C X.env) fp) elt (tE G xc W0 c me)) (hown : ∀ i ∈ tgIx mt, i ∈ own.map (·.2)) :
    PS X (.Assign [.Name y py] (.ListComp elt [⟨tg, it, ifs, 0⟩] scope pos) spos) (tS G xc W (xS c (.asg (.name i) (.lc me (own.map (·.2)) mt mi cond)))) := by
  refine PS.weak (ps_setLc (C.calm rfl) (by rw [C.ns]; exact C.nd) (by rw [C.ns]; exact hy) (by rw [C.sc]; exact hyl) (sw_true (by rw [C.sc]; exact hk) (by rw [C.sc]; exact hyl) hl ha) hi (by rw [C.ns, C.sc]; exact blkOk_by hb) hg ht.run he (fold_of hf)) fun D σ H q => ?_
  have q : tS G xc W (fun ρ h => (xE c (.lc me (own.map (·.2)) mt mi cond) ρ h).out ρ fun v h => (match setT (.name i) v ρ with
    | some σ' => .nx σ' h
    | none => .bad)) D σ H := q.of fun _ _ => by simp only [xS] <;> rfl
  refine lc_weak (wi := tI G xc W c mi) hown (ps_tX (f := fun ρ v h => _) q fun j ρ hm a b H1 re rh r P => ?_)
  simp only [setT] at P
  exact P.nx (re.set r i) rh
theorem takesW0 : Takes X W0 := takes0
end
end Mi
/-! MS14: isinstance. -/
namespace Mi
open PySem PySem.Spec PyProof.Rows L2

def tyName : Ty → String
  | .int => "int"
  | .bool => "bool"
  | .list => "list"
  | .tuple => "tuple"
  | .dict => "dict"
  | .str => "str"
  | .own _ => "?"
  | .valueError => "ValueError"
def tyB : Ty → Bool
  | .own _ => false
  | .valueError => false
  | _ => true
/-- what of the text isinstance asks -/
structure IsOk (G : Glb) : Prop where
  hn : PySem.W.specialIn G.K (.builtin "object.__class__") "__get__" = some (some (.builtin "getset_descriptor.__get__"))
  htk : PySem.W.takesIn G.K (.builtin "object.__class__") = some true
  ha : ∀ (c : Nat) (d : ClD), G.P.cls[c]? = some d → d.exc = false → PySem.W.findIn G.K (.ref (G.ca c)) "__class__" = some (some (.builtin "object.__class__"))
  hm : ∀ (c : Nat) (d : ClD), G.P.cls[c]? = some d → d.exc = false → PySem.W.mroIn G.K (G.ca c) (.type "object") = some true
  kit : ∀ (c : Nat) (d : ClD) (t : Ty), G.P.cls[c]? = some d → d.exc = false → tyB t = true → PySem.W.kitOne G.K (.ref (G.ca c)) (.type (tyName t)) = some false
section
variable {G : Glb} {xc : Xc} {W : WX} {c : Cfg} {k : Nat} {N : List Str} {sc : Scope} {cm : Bool} {X : Cx} {j j' : List Addr} {H H' : Hp} {pins : List (Addr × Obj)} {σ : L2.St} {s : Shared}
/-- what a value's isinstance is by -/
structure Kit (G : Glb) (hm : MH) (m : MV) (u : Value) (s : Shared) (K : PySem.W.Frag) (ans : Ty → Bool) : Prop where
  ex : ∃ t P, PySem.W.KitX K u t P ∧ P s.heap ∧ u ≠ .builtin "__main__.__loader__#opaque" ∧ ∀ ty, tyB ty = true → PySem.W.kitOne K t (.type (tyName ty)) = some (ans ty)
theorem kit_m (g : XG G X) (co : ClsOk G) (io : IsOk G) (I : Inv X pins σ H s) {hm : MH} (rh : RH G j H hm) {m : MV} {x : V} {u : Value} (r : VR G j H m x) (rx : RelV x u) (h : ∀ t, (isTy G.P hm m t).isSome = true) (hx : ∀ c vs, m ≠ .exn c vs) :
    Kit G hm m u s X.K fun t => (isTy G.P hm m t).getD false := by
  have base : ∀ {t : Value}, TyX X.K H x t → (∀ ty, tyB ty = true → PySem.W.kitOne X.K t (.type (tyName ty)) = some ((isTy G.P hm m ty).getD false)) → Kit G hm m u s X.K fun t => (isTy G.P hm m t).getD false := fun {t} ty q => by
    obtain ⟨P, Z, p, ne⟩ := kit_of I rx ty
    exact ⟨⟨t, P, Z, p, ne, q⟩⟩
  have bt : ∀ {a : String} {f : Ty → Bool}, (∀ ty, tyB ty = true → kitB a (tyName ty) = some (f ty)) → ∀ ty, tyB ty = true → PySem.W.kitOne X.K (.type a) (.type (tyName ty)) = some (f ty) := fun {a f} q ty h => kit_ty (q ty h)
  cases m with
  | non => cases r.non_inv; exact base (.base .non) (bt fun ty h => by cases ty <;> first | exact absurd (show false = true from h) (by decide) | (show kitB "NoneType" _ = some _; simp only [isTy, tyName, Option.getD]; decide +kernel))
  | bl b => cases r.bl_inv; exact base (.base (.bl b)) (bt fun ty h => by cases ty <;> first | exact absurd (show false = true from h) (by decide) | (show kitB "bool" _ = some _; simp only [isTy, tyName, Option.getD]; decide +kernel))
  | int i => cases r.int_inv; exact base (.base (.int i)) (bt fun ty h => by cases ty <;> first | exact absurd (show false = true from h) (by decide) | (show kitB "int" _ = some _; simp only [isTy, tyName, Option.getD]; decide +kernel))
  | str i => cases r.str_inv; exact base (.base (.str i)) (bt fun ty h => by cases ty <;> first | exact absurd (show false = true from h) (by decide) | (show kitB "str" _ = some _; simp only [isTy, tyName, Option.getD]; decide +kernel))
  | tup vs =>
    obtain ⟨a, xs, rfl, h1, h2⟩ := r.tup_inv
    have q : ∀ ty, tyB ty = true → PySem.W.kitOne X.K (.type "tuple") (.type (tyName ty)) = some ((isTy G.P hm (.tup vs) ty).getD false) := bt fun ty h => by cases ty <;> first | exact absurd (show false = true from h) (by decide) | (show kitB "tuple" _ = some _; simp only [isTy, tyName, Option.getD]; decide +kernel)
    rcases h1 with (h1 | ⟨o, h1⟩) | ⟨o, its, n, e1, e2, _⟩
    · exact base (.base (.tup h1)) q
    · exact base (.fTuple h1) q
    · exact base (.kTuple (by rw [g.K]; exact e1) e2) q
  | rol vs => exact absurd (h .int) (by simp [isTy])
  | exn a b => exact absurd rfl (hx a b)
  | ref n =>
    have h0 := h .int
    simp only [isTy] at h0
    split at h0
    · rename_i vs e
      obtain ⟨a, xs, rfl, hj, h1, h2⟩ := rh.lst e r
      refine base (.base (.lst h1)) (bt fun ty h => ?_)
      simp only [isTy, e]
      cases ty <;> first | exact absurd (show false = true from h) (by decide) | (simp only [tyName, Option.getD]; decide +kernel)
    · rename_i lk kvs e
      have q : ∀ ty, tyB ty = true → PySem.W.kitOne X.K (.type "dict") (.type (tyName ty)) = some ((isTy G.P hm (.ref n) ty).getD false) := bt fun ty h => by
        simp only [isTy, e]
        cases ty <;> first | exact absurd (show false = true from h) (by decide) | (simp only [tyName, Option.getD]; decide +kernel)
      obtain ⟨a, o, rfl, hj, h1, D⟩ := rh.dic e r
      obtain rfl : u = Value.ref a := rx
      have T : s.TypeIs (.ref a) "dict" := dic_type g I h1 D
      obtain ⟨ob, e1, e2⟩ := T
      exact ⟨⟨_, _, PySem.W.kitx_dict, ⟨ob, e1, e2⟩, (fun z => nomatch z), q⟩⟩
    · rename_i kc fs e
      obtain ⟨a, dx, fs', rfl, hj, h1, h2, d, d1, d2⟩ := rh.ins e r
      have hK : X.K = G.K := g.K
      refine base (.base (.ins h1 (by rw [hK]; exact co.cls _ _ d1 d2) (by rw [hK]; exact io.ha _ _ d1 d2) (by rw [hK]; exact io.hn) (by rw [hK]; exact io.htk) (by rw [hK]; exact io.hm _ _ d1 d2))) fun ty h => ?_
      rw [hK, io.kit _ _ ty d1 d2 h]
      simp only [isTy, e]
      cases ty <;> first | exact absurd (show false = true from h) (by decide) | rfl
    · simp at h0
theorem isTy_all {P : Prog} {hm : MH} {m : MV} {t : Ty} (h : (isTy P hm m t).isSome = true) (t' : Ty) : (isTy P hm m t').isSome = true := by
  cases m with
  | ref n =>
    simp only [isTy] at h ⊢
    split at h <;> simp_all
  | _ => first | rfl | (simp [isTy] at h)
theorem isTys_any {P : Prog} {hm : MH} {m : MV} : ∀ {ts : List Ty} {b : Bool}, isTys P hm m ts = some b → (∀ t ∈ ts, (isTy P hm m t).isSome = true) ∧ b = ts.any fun t => (isTy P hm m t).getD false
  | [], b, h => by
    simp [isTys] at h
    exact ⟨fun t ht => by simp at ht, by simp [← h]⟩
  | t :: ts, b, h => by
    unfold isTys at h
    split at h
    · rename_i b1 e1
      split at h
      · rename_i b2 e2
        obtain ⟨q1, q2⟩ := isTys_any e2
        cases h
        refine ⟨fun t' ht => ?_, ?_⟩
        · rcases List.mem_cons.mp ht with e | ht
          · subst e; rw [e1]; rfl
          · exact q1 t' ht
        · rw [List.any_cons, e1, q2]
          rfl
      · cases h
    · cases h
theorem kitAny_all {K : PySem.W.Frag} {t : Value} {ans : Ty → Bool} (h : ∀ ty, tyB ty = true → PySem.W.kitOne K t (.type (tyName ty)) = some (ans ty)) : ∀ {ts : List Ty}, (∀ ty ∈ ts, tyB ty = true) → PySem.W.kitAny K t (ts.map fun ty => Value.type (tyName ty)) = some (ts.any ans)
  | [], _ => rfl
  | ty :: ts, hb => by
    rw [List.map_cons]
    unfold PySem.W.kitAny
    rw [h ty (hb ty (List.mem_cons_self ..)), List.any_cons]
    cases e : ans ty with
    | true => rfl
    | false => exact kitAny_all h fun t ht => hb t (List.mem_cons_of_mem _ ht)
theorem ty_boot : ∀ ty, tyB ty = true → bootBuiltins (Str.ofString (tyName ty)) = some (.type (tyName ty)) := by
  intro ty h
  cases ty <;> first | exact absurd (show false = true from h) (by decide) | decide +kernel
/-- a built-in type's name -/
def tyNameB (G : Tab) (sc : Scope) : Expr → Ty → Bool
  | .Name x _, t => tyB t && (x == Str.ofString (tyName t)) && glB sc x && G.blts.contains x
  | _, _ => false
def BltOk (G : Glb) : Prop := ∀ x ∈ G.T.blts, G.mg x = none
theorem pe_ty (C : Sur G k N sc cm X) (bo : BltOk G) {e : Expr} {t : Ty} (h : tyNameB G.T sc e t = true) : PE X e (tC (.ty (tyName t))) := by
  unfold tyNameB at h
  split at h
  · rename_i x p
    simp only [Bool.and_eq_true, beq_iff_eq] at h
    obtain ⟨⟨⟨h1, h2⟩, h3⟩, h4⟩ := h
    subst h2
    have hp : plainName (Str.ofString (tyName t)) = true := by
      unfold glB at h3
      exact (Bool.and_eq_true _ _ ▸ h3).2
    obtain ⟨p1, p2, p3⟩ := plainName_of hp
    exact ⟨fun pins s σ H Q I q => ld_blt I (gl_of C.sc h3) (by rw [C.g.mg]; exact bo _ (by simpa using h4)) (ty_boot t h1) ⟨.ty (tyName t), H, I, rfl, q⟩ p3 p1⟩
  · cases h
def tysB (G : Tab) (sc : Scope) : List Expr → List Ty → Bool
  | [], [] => true
  | e :: es, t :: ts => tyNameB G sc e t && tysB G sc es ts
  | _, _ => false
def rVals (vs : List V) : TA := fun _ H Q => Q vs H
theorem starB_name {e : Expr} {t : Ty} {T : Tab} (h : tyNameB T sc e t = true) : starB e = true := by
  cases e <;> first | rfl | exact absurd (show false = true from h) (by decide)
theorem pa_tys (C : Sur G k N sc cm X) (bo : BltOk G) : ∀ {es : List Expr} {ts : List Ty}, tysB G.T sc es ts = true → PA X es (rVals (ts.map fun t => V.ty (tyName t)))
  | [], [], _ => PA.weak pa_nil fun _ _ _ h => h
  | e :: es, t :: ts, h => by
    simp only [tysB, Bool.and_eq_true] at h
    exact PA.weak (pa_cons (pe_ty C bo h.1) (pa_tys C bo h.2) (star_cons (starB_name h.1))) fun _ _ _ h => h
  | [], _ :: _, h => by simp [tysB] at h
  | _ :: _, [], h => by simp [tysB] at h
theorem tys_len {T : Tab} : ∀ {es : List Expr} {ts : List Ty}, tysB T sc es ts = true → ∀ t ∈ ts, tyB t = true
  | [], [], _, t, ht => by simp at ht
  | e :: es, t :: ts, h, t', ht => by
    simp only [tysB, Bool.and_eq_true] at h
    rcases List.mem_cons.mp ht with e1 | ht
    · subst e1
      have := h.1
      unfold tyNameB at this
      split at this
      · simp only [Bool.and_eq_true] at this
        exact this.1.1.1
      · cases this
    · exact tys_len h.2 t' ht
  | [], _ :: _, h, _, _ => by simp [tysB] at h
  | _ :: _, [], h, _, _ => by simp [tysB] at h
theorem cls_tys : ∀ ts : List Ty, Paired ClsV (ts.map fun t => V.ty (tyName t)) (ts.map fun t => Value.type (tyName t))
  | [] => .nil
  | t :: ts => .cons (.ty _) (cls_tys ts)
/-- isinstance(a, T), isinstance(a, (T, ..)) -/
def isiB (T : Tab) (sc : Scope) : Expr → List Ty → Bool → Bool
  | .Tuple es _ _, ts, false => tysB T sc es ts && decide (ts.length ≤ 100) && !ts.isEmpty
  | e, [t], true => tyNameB T sc e t
  | _, _, _ => false
theorem s_isi {x : Str} {p pos : Pos} {a e : Expr} {ma : ME} {ts : List Ty} {single : Bool} (C : Sur G k N sc cm X) (hc : c.P = G.P) (bo : BltOk G) (co : ClsOk G) (io : IsOk G) (hx : x = "isinstance") (hm : G.T.blts.contains x = true) (hg : glB sc x = true) (hs : starB a = true) (hs2 : starB e = true)
    (h : isiB G.T sc e ts single = true) (ha : PE X a (tE G xc W c ma)) : PE X (.Call (.Name x p) [a, e] [] pos) (tE G xc W c (.isi ma ts single)) := by
  subst hx
  have hp : plainName "isinstance" = true := by decide +kernel
  obtain ⟨p1, p2, p3⟩ := plainName_of hp
  refine ⟨fun pins s σ H Q I q => ?_⟩
  have q : tX G xc W (VR G) (fun ρ h => (xE c ma ρ h).bind fun v h => (match isTys c.P h v ts with
    | some b => .ok (.bl b) h
    | none => .bad)) σ H Q := q.of fun _ _ => by simp only [xE] <;> rfl
  refine wpAny_Call_Name_kw (ld_blt I (gl_of C.sc hg) (by rw [C.g.mg]; exact bo _ (by simpa using hm)) (show bootBuiltins "isinstance" = some (.builtin "isinstance") by decide +kernel) ?_ p3 p1)
  have hA : tE G xc W c ma σ H fun y H1 => ∃ j hm m b, RH G j H1 hm ∧ VR G j H1 m y ∧ isTys G.P hm m ts = some b ∧ PostV G j H1 (fun cls d H' => W cls d σ H') (.ok (.bl b) hm) Q := by
    refine q.bind (k := fun ρ v h => _) fun j ρ hm v y H1 re rh r1 P => ?_
    split at P
    · rename_i b e2
      exact ⟨j, hm, v, b, rh, r1, by rw [← hc]; exact e2, P⟩
    · exact P.elim
  have kit : ∀ {s1 : Shared} {H1 : Hp} {j : List Addr} {hm : MH} {m : MV} {b : Bool} {y : V} {u : Value} (_ : Inv X pins σ H1 s1) (_ : RelV y u), RH G j H1 hm → VR G j H1 m y → isTys G.P hm m ts = some b → ts ≠ [] → Kit G hm m u s1 X.K fun t => (isTy G.P hm m t).getD false := fun {s1 H1 j hm m b y u} I1 ru rh r1 e2 hne => by
    obtain ⟨q1, q2⟩ := isTys_any e2
    obtain ⟨t0, ts0, rfl⟩ := List.exists_cons_of_ne_nil hne
    exact kit_m C.g co io I1 rh r1 ru (isTy_all (q1 t0 (List.mem_cons_self ..))) fun c vs z => by subst z; cases r1
  unfold isiB at h
  split at h
  · rename_i es n pt
    simp only [Bool.and_eq_true, decide_eq_true_eq, Bool.not_eq_true'] at h
    have hT := pe_tup (x1 := n) (pos := pt) (pa_tys C bo h.1.1)
    have hA2 : PA X [a, .Tuple es n pt] (tCons (tE G xc W c ma) (tCons (tTup (rVals (ts.map fun t => V.ty (tyName t)))) tNil)) := pa_cons ha (pa_cons hT pa_nil (star_cons hs2)) (star_cons hs)
    refine PyProof.Rows.callWith_builtin1 (thn (hA2.run pos pins s σ H (fun vs H1 => ∃ y p, vs = [y, .ref p] ∧ H1 p = some (.tup (ts.map fun t => V.ty (tyName t))) ∧ ∃ j hm m b, RH G j H1 hm ∧ VR G j H1 m y ∧ isTys G.P hm m ts = some b ∧ Q (.bl b) H1) I ?_) fun us s1 ⟨vs, H1, I1, rv, y, tp, ev, hT2, j, hm, m, b, rh, r1, eb, qq⟩ => ?_) (star_cons hs) (star_any (es := [.Tuple es n pt]) rfl)
    · obtain ⟨j, ρ, hm, re, rh, P⟩ := hA
      refine ⟨j, ρ, hm, re, rh, P.mono fun y H1 ⟨j, hm, m, b, rh, r1, e2, P1⟩ => ⟨?_, fun p hp => ⟨y, p, rfl, upd_same, j, hm, m, b, rh.keep hp, r1.mono (fut_new hp), e2, P1.off rh hp (.bl b)⟩⟩⟩
      rw [List.length_map, sizeLine_eq]
      omega
    · subst ev
      obtain ⟨u1, u2, rfl, ru1, ru2⟩ := vals2 rv
      obtain rfl : u2 = Value.ref tp := ru2
      have hne : ts ≠ [] := by
        intro z
        subst z
        simp at h
      obtain ⟨⟨t, P, Z, p, ne, ka⟩⟩ := kit I1 ru1 rh r1 eb hne
      obtain ⟨_, its, rvv, o, e1, e2, n', e3⟩ := (show ObjOk X.prog X.w H1 s1.heap tp (.tup (ts.map fun t => V.ty (tyName t))) from I1.hok tp _ hT2)
      have ez := ClsV.all (cls_tys ts) rvv
      subst ez
      obtain ⟨oc, od, dt, sl⟩ := o
      simp only at e2 e3
      subst e2 e3
      have eb2 := (isTys_any eb).2
      refine PySem.W.kia_tup Z I1.kIn p e1 (kitAny_all ka (tys_len h.1.1)) ne fun tk => ?_
      rw [← eb2]
      exact ⟨.bl b, H1, I1.tok tk, rfl, qq⟩
  · rename_i e' t _
    have hT := pe_ty C bo h
    have ht : tyB t = true := by
      have := h
      unfold tyNameB at this
      split at this
      · simp only [Bool.and_eq_true] at this
        exact this.1.1.1
      · cases this
    have hA2 : PA X [a, e] (tCons (tE G xc W c ma) (tCons (tC (.ty (tyName t))) tNil)) := pa_cons ha (pa_cons hT pa_nil (star_cons hs2)) (star_cons hs)
    refine PyProof.Rows.callWith_builtin1 (thn (hA2.run pos pins s σ H (fun vs H1 => ∃ y, vs = [y, .ty (tyName t)] ∧ ∃ j hm m b, RH G j H1 hm ∧ VR G j H1 m y ∧ isTys G.P hm m [t] = some b ∧ Q (.bl b) H1) I ?_) fun us s1 ⟨vs, H1, I1, rv, y, ev, j, hm, m, b, rh, r1, eb, qq⟩ => ?_) (star_cons hs) (star_any (es := [e]) (by simp [starsB, hs2]))
    · obtain ⟨j, ρ, hm, re, rh, P⟩ := hA
      exact ⟨j, ρ, hm, re, rh, P.mono fun y H1 ⟨j, hm, m, b, rh, r1, e2, P1⟩ => ⟨y, rfl, j, hm, m, b, rh, r1, e2, P1.ok rh (.bl b)⟩⟩
    · subst ev
      obtain ⟨u1, u2, rfl, ru1, ru2⟩ := vals2 rv
      obtain rfl : u2 = Value.type (tyName t) := ru2
      obtain ⟨⟨tt, P, Z, p, ne, ka⟩⟩ := kit I1 ru1 rh r1 eb (by simp)
      have eb2 := (isTys_any eb).2
      simp only [List.any_cons, List.any_nil, Bool.or_false] at eb2
      refine PySem.W.kia_one Z I1.kIn p (ka t ht) ne fun tk => ?_
      rw [← eb2]
      exact ⟨.bl b, H1, I1.tok tk, rfl, qq⟩
  · cases h
end
end Mi
set_option maxHeartbeats 1000000
/-! MS15: the checker of expressions, and that it is right. -/
namespace Mi
open PySem PySem.Spec PyProof.Rows L2

def ownOf (N : List Str) (own : List Nat) : List (Str × Nat) := own.map fun i => (N.getD i Str.empty, i)
theorem ownOf_snd (N : List Str) (own : List Nat) : (ownOf N own).map (·.2) = own := by
  unfold ownOf
  rw [List.map_map]
  exact List.map_id' own
/-- the arguments of a built-in's call, all else in order -/
def bfArgs (T : Tab) (cm : Bool) (sc : Scope) (b : BF) (e : Expr) : Option (List Expr) := match b, e with
  | .listRange, .Call (.Name x _) [.Call (.Name y _) [a'] [] _] [] _ => if (cm && (x == "list") && (y == "range") && T.blts.contains x && T.blts.contains y && glB sc x && glB sc y && starB a') = true then some [a'] else none
  | b, .Call (.Name x _) (x1 :: xs) [] _ => if (bfCan cm b && (bfName b == x) && T.blts.contains x && glB sc x) = true then some (x1 :: xs) else none
  | _, _ => none
def rngArgs (T : Tab) (sc : Scope) (e : Expr) : Option (List Expr) := match e with
  | .Call (.Name x _) [a'] [] _ => if ((x == "range") && T.blts.contains x && glB sc x) = true then some [a'] else none
  | .Call (.Name x _) [a', b'] [] _ => if ((x == "range") && T.blts.contains x && glB sc x) = true then some [a', b'] else none
  | _ => none
mutual
/-- the term is this mini text; md: as a test -/
def chkE (T : Tab) (N : List Str) (cm : Bool) : ME → Bool → Scope → (Str → Bool) → Expr → Bool
  | .var i, md, sc, fn, e => (match e with
    | .Name x _ => (N[i]? == some x) && visB sc x && plainName x
    | _ => false)
  | .int i, md, sc, fn, e => (match e with
    | .Constant (.int i') _ _ => decide (i = i')
    | _ => false)
  | .bl i, md, sc, fn, e => (match e with
    | .Constant (.bool i') _ _ => decide (i = i')
    | _ => false)
  | .non, md, sc, fn, e => (match e with
    | .Constant .none _ _ => true
    | _ => false)
  | .str i, md, sc, fn, e => (match e with
    | .Constant (.str i') _ _ => i == i'
    | _ => false)
  | .glob i, md, sc, fn, e => (match e with
    | .Name x _ => (match T.P.cons[i]? with
      | some p => (p.1 == x) && glB sc x
      | none => false)
    | _ => false)
  | .tup es, md, sc, fn, e => (match e with
    | .Tuple xs _ _ => decide (es.len ≤ 1000) && chkEs T N cm es sc fn xs
    | _ => false)
  | .lst es, md, sc, fn, e => (match e with
    | .List xs _ => decide (es.len ≤ 1000) && chkEs T N cm es sc fn xs
    | _ => false)
  | .dic0, md, sc, fn, e => (match e with
    | .Dict [] [] _ => true
    | _ => false)
  | .bin op a b, md, sc, fn, e => (match e with
    | .BinOp a' op' b' _ => decide (op = op') && chkE T N cm a false sc fn a' && chkE T N cm b false sc fn b'
    | _ => false)
  | .neg a, md, sc, fn, e => (match e with
    | .UnaryOp .USub a' _ => chkE T N cm a false sc fn a'
    | _ => false)
  | .cmp op a b, md, sc, fn, e => (match e with
    | .Compare a' [op'] [b'] _ => decide (op = op') && chkE T N cm a false sc fn a' && chkE T N cm b false sc fn b' && !(behindInMarks op' b')
    | _ => false)
  | .cmp2 op op2 a b d, md, sc, fn, e => (match e with
    | .Compare a' [op', op2'] [b', d'] _ => decide (op = op') && decide (op2 = op2') && chkE T N cm a false sc fn a' && chkE T N cm b false sc fn b' && chkE T N cm d false sc fn d' && !(lastMarks [op', op2'] [b', d'])
    | _ => false)
  | .and a b, md, sc, fn, e => (match e with
    | .BoolOp .And [a', b'] _ => chkE T N cm a md sc fn a' && chkE T N cm b md sc fn b'
    | .BoolOp .And (a' :: b' :: d' :: r') p => chkE T N cm a md sc fn a' && chkE T N cm b md sc fn (.BoolOp .And (b' :: d' :: r') p)
    | _ => false)
  | .or a b, md, sc, fn, e => (match e with
    | .BoolOp .Or [a', b'] _ => chkE T N cm a md sc fn a' && chkE T N cm b md sc fn b'
    | .BoolOp .Or (a' :: b' :: d' :: r') p => chkE T N cm a md sc fn a' && chkE T N cm b md sc fn (.BoolOp .Or (b' :: d' :: r') p)
    | _ => false)
  | .not a, md, sc, fn, e => (match e with
    | .UnaryOp .Not a' _ => chkE T N cm a md sc fn a'
    | _ => false)
  | .ite t a b, md, sc, fn, e => (match e with
    | .IfExp t' a' b' _ => !md && chkE T N cm t true sc fn t' && chkE T N cm a false sc fn a' && chkE T N cm b false sc fn b'
    | _ => false)
  | .idx a b, md, sc, fn, e => (match e with
    | .Subscript a' b' _ => plainIxB b' && chkE T N cm a false sc fn a' && chkE T N cm b false sc fn b'
    | _ => false)
  | .sli a lo hi, md, sc, fn, e => (match e with
    | .Subscript a' (.Slice lo' hi' none _) _ => chkE T N cm a false sc fn a' && chkO T N cm lo false sc fn lo' && chkO T N cm hi false sc fn hi'
    | _ => false)
  | .fld a x, md, sc, fn, e => (match e with
    | .Attribute a' x' _ => (x == x') && baseB a' && T.flds.contains x && chkE T N cm a false sc fn a'
    | _ => false)
  | .call f es, md, sc, fn, e => (match e with
    | .Call (.Name x _) xs [] _ => cm && (T.fnm.lookup x == some f) && glB sc x && argsB T.P f es.len && chkEs T N cm es sc fn xs
    | _ => false)
  | .make k es, md, sc, fn, e => (match e with
    | .Call (.Name x _) xs [] _ => cm && (T.cnm.lookup x == some k) && glB sc x && (match T.P.cls[k]? with
      | some d => !d.exc && (match d.meths.lookup ("__init__" : Str) with
        | some f => argsB T.P f (es.len + 1)
        | none => false)
      | none => false) && chkEs T N cm es sc fn xs
    | _ => false)
  | .meth a x es, md, sc, fn, e => (match e with
    | .Call (.Attribute a' x' p) xs [] pos => cm && (x == x') && baseB a' && decide (es.len < 29) && (p.endLine == pos.line) && (T.P.cls.all fun d => match d.meths.lookup x with
      | some f => argsB T.P f (es.len + 1)
      | none => true) && chkE T N cm a false sc fn a' && chkEs T N cm es sc fn xs
    | _ => false)
  | .bf b es, md, sc, fn, e => (match bfArgs T cm sc b e with
    | some xs => chkEs T N cm es sc fn xs
    | none => false)
  | .bm b a es, md, sc, fn, e => (match e with
    | .Call (.Attribute a' x' p) xs [] pos => (bmName b == x') && baseB a' && decide (es.len < 29) && (p.endLine == pos.line) && chkE T N cm a false sc fn a' && chkEs T N cm es sc fn xs
    | _ => false)
  | .isi a ts single, md, sc, fn, e => (match e with
    | .Call (.Name x _) [a', t'] [] _ => (x == "isinstance") && T.blts.contains x && glB sc x && starB a' && starB t' && isiB T sc t' ts single && chkE T N cm a false sc fn a'
    | _ => false)
  | .lc elt own t it cond, md, sc, fn, e => (match e with
    | .ListComp elt' [⟨tg, it', ifs, 0⟩] scope _ => cm && notSet it' && blkC N sc scope (ownOf N own) && tgB N (relS scope sc) (fun x => scope.names.lookup x == some .cell) cm tg t && ((tgIx t).all fun i => own.contains i) &&
        chkI T N cm it sc fn it' && chkC T N cm cond (relS scope sc) (fun x => scope.names.lookup x == some .cell) ifs && chkE T N cm elt false (relS scope sc) (fun x => scope.names.lookup x == some .cell) elt'
    | _ => false)
  | .never, md, sc, fn, e => true
  | _, _, _, _, _ => false
def chkEs (T : Tab) (N : List Str) (cm : Bool) : MEs → Scope → (Str → Bool) → List Expr → Bool
  | .nil, sc, fn, es => (match es with
    | [] => true
    | _ => false)
  | .cons a r, sc, fn, es => (match es with
    | e :: es => starB e && chkE T N cm a false sc fn e && chkEs T N cm r sc fn es
    | _ => false)
def chkI (T : Tab) (N : List Str) (cm : Bool) : MI → Scope → (Str → Bool) → Expr → Bool
  | .seq a, sc, fn, e => chkE T N cm a false sc fn e
  | .rng es, sc, fn, e => (match rngArgs T sc e with
    | some xs => chkEs T N cm es sc fn xs
    | none => false)
  | _, _, _, _ => false
/-- a bound of a slice -/
def chkO (T : Tab) (N : List Str) (cm : Bool) : MO2 → Bool → Scope → (Str → Bool) → Option Expr → Bool
  | .none, md, sc, fn, e => e.isNone
  | .some a, md, sc, fn, e => (match e with
    | some e => chkE T N cm a md sc fn e
    | none => false)
/-- a comprehension's condition -/
def chkC (T : Tab) (N : List Str) (cm : Bool) : MO2 → Scope → (Str → Bool) → List Expr → Bool
  | .none, sc, fn, e => e.isEmpty
  | .some a, sc, fn, e => (match e with
    | [e] => chkE T N cm a true sc fn e
    | _ => false)
end
/-- the facts of the whole text -/
structure Gok (G : Glb) : Prop where
  ds : DefsOk G
  co : ClsOk G
  io : IsOk G
  bo : BltOk G
  con : ∀ (i : Nat) (x : Str) (m : MV), G.P.cons[i]? = some (x, m) → ConOk G x m
  fnm : ∀ (x : Str) (i : Nat), G.T.fnm.lookup x = some i → G.mg x = some (.ref (G.fa i))
  cnm : ∀ (x : Str) (i : Nat), G.T.cnm.lookup x = some i → G.mg x = some (.ref (G.ca i))
  mks : ∀ (k : Nat) (d : ClD) (f : Nat), G.P.cls[k]? = some d → d.exc = false → d.meths.lookup ("__init__" : Str) = some f → Mk G.K (G.ca k) (G.fa f)
/-- all that the surroundings of an expression must have -/
structure Full (G : Glb) (kk : Nat) (N : List Str) (sc : Scope) (fn : Str → Bool) (cm : Bool) (X : Cx) (W : WX) : Prop where
  sur : Sur G (2 * kk) N sc cm X
  hfn : ∀ x, fn x = true → X.fn x = true
  tk : cm = true → Takes X W
  fs : FnsAt G kk
  ok : Gok G
def Good (X : Cx) (e : Expr) (te : TE) (tt : TT) (md : Bool) : Prop := (md = false → PE X e te) ∧ (md = true → PT X e tt ∧ ∀ op es p, e = .BoolOp op es p → PW X e tt)
section
variable {G : Glb} {xc : Xc} {kk : Nat} {N : List Str} {cm : Bool}
theorem Full.calm {sc : Scope} {fn : Str → Bool} {X : Cx} {W : WX} (F : Full G kk N sc fn cm X W) (h : cm = true) : Full G kk N sc fn true X W := by
  subst h
  exact F
theorem good_plain {sc : Scope} {fn : Str → Bool} {X : Cx} {W : WX} {e : Expr} {me : ME} {md : Bool} (F : Full G kk N sc fn cm X W) (hp : plainT e = true) (h : PE X e (tE G xc W (cfg G.P kk) me)) : Good X e (tE G xc W (cfg G.P kk) me) (tT G xc W (cfg G.P kk) me) md :=
  ⟨fun _ => h, fun _ => ⟨t_plain F.sur hp h, fun op es p z => by subst z; exact absurd (show false = true from hp) (by decide)⟩⟩
theorem good_two {X : Cx} {W : WX} {e : Expr} {te : TE} {tt : TT} {md : Bool} (h : PE X e te) (h2 : PT X e tt) (hn : ∀ op es p, e ≠ .BoolOp op es p) : Good X e te tt md :=
  ⟨fun _ => h, fun _ => ⟨h2, fun op es p z => absurd z (hn op es p)⟩⟩
theorem Full.blk {sc : Scope} {fn : Str → Bool} {X : Cx} {W : WX} (F : Full G kk N sc fn cm X W) {s : Shared} {H : Hp} {scope : Scope} {cl : List (Str × Addr)} {Cc : Addr} {fp : List Addr} :
    Full G kk N (relS scope sc) (fun x => scope.names.lookup x == some .cell) cm (X.blk s H scope (compEnvC scope cl Cc X.env) fp) W0 :=
  ⟨F.sur.blk, fun _ h => h, fun _ => takes0, F.fs, F.ok⟩
mutual
theorem snd_E : ∀ (me : ME) {md : Bool} {sc : Scope} {fn : Str → Bool} {X : Cx} {W : WX} {e : Expr}, Full G kk N sc fn cm X W → chkE G.T N cm me md sc fn e = true → Good X e (tE G xc W (cfg G.P kk) me) (tT G xc W (cfg G.P kk) me) md
  | .var i, md, sc, fn, X, W, e, F, h => by
    simp only [chkE] at h
    split at h
    · simp only [Bool.and_eq_true, beq_iff_eq] at h
      exact good_plain F rfl (s_var F.sur h.1.1 h.1.2 h.2)
    · cases h
  | .int i, md, sc, fn, X, W, e, F, h => by
    simp only [chkE] at h
    split at h
    · rw [decide_eq_true_eq] at h
      subst h
      exact good_plain F rfl s_int
    · cases h
  | .bl i, md, sc, fn, X, W, e, F, h => by
    simp only [chkE] at h
    split at h
    · rw [decide_eq_true_eq] at h
      subst h
      exact good_plain F rfl s_bl
    · cases h
  | .non, md, sc, fn, X, W, e, F, h => by
    simp only [chkE] at h
    split at h
    · exact good_plain F rfl s_non
    · cases h
  | .str i, md, sc, fn, X, W, e, F, h => by
    simp only [chkE] at h
    split at h
    · rw [beq_iff_eq] at h
      subst h
      exact good_plain F rfl s_str
    · cases h
  | .glob i, md, sc, fn, X, W, e, F, h => by
    simp only [chkE] at h
    split at h
    · split at h
      · rename_i p he
        simp only [Bool.and_eq_true, beq_iff_eq] at h
        obtain ⟨y, m⟩ := p
        obtain ⟨h1, h2⟩ := h
        simp only at h1
        subst h1
        exact good_plain F rfl (s_glob F.sur rfl he (F.ok.con _ _ _ he) h2)
      · cases h
    · cases h
  | .tup es, md, sc, fn, X, W, e, F, h => by
    simp only [chkE] at h
    split at h
    · simp only [Bool.and_eq_true, decide_eq_true_eq] at h
      obtain ⟨p, _, _⟩ := snd_Es es F h.2
      exact good_plain F rfl (s_tup h.1 p)
    · cases h
  | .lst es, md, sc, fn, X, W, e, F, h => by
    simp only [chkE] at h
    split at h
    · simp only [Bool.and_eq_true, decide_eq_true_eq] at h
      obtain ⟨p, _, _⟩ := snd_Es es F h.2
      exact good_plain F rfl (s_lst h.1 p)
    · cases h
  | .dic0, md, sc, fn, X, W, e, F, h => by
    simp only [chkE] at h
    split at h
    · exact good_plain F rfl s_dic0
    · cases h
  | .bin op a b, md, sc, fn, X, W, e, F, h => by
    simp only [chkE] at h
    split at h
    · simp only [Bool.and_eq_true, decide_eq_true_eq] at h
      obtain ⟨⟨h1, h2⟩, h3⟩ := h
      subst h1
      exact good_plain F rfl (s_bin F.sur ((snd_E a F h2).1 rfl) ((snd_E b F h3).1 rfl))
    · cases h
  | .neg a, md, sc, fn, X, W, e, F, h => by
    simp only [chkE] at h
    split at h
    · exact good_plain F rfl (s_neg ((snd_E a F h).1 rfl))
    · cases h
  | .cmp op a b, md, sc, fn, X, W, e, F, h => by
    simp only [chkE] at h
    split at h
    · simp only [Bool.and_eq_true, decide_eq_true_eq, Bool.not_eq_true'] at h
      obtain ⟨⟨⟨h1, h2⟩, h3⟩, h4⟩ := h
      subst h1
      have ha := (snd_E a F h2).1 rfl
      have hb := (snd_E b F h3).1 rfl
      exact good_two (W := W) (s_cmp F.sur ha hb h4) (t_cmp F.sur ha hb h4) fun _ _ _ z => nomatch z
    · cases h
  | .cmp2 op op2 a b d, md, sc, fn, X, W, e, F, h => by
    simp only [chkE] at h
    split at h
    · simp only [Bool.and_eq_true, decide_eq_true_eq, Bool.not_eq_true'] at h
      obtain ⟨⟨⟨⟨⟨h1, h2⟩, h3⟩, h4⟩, h5⟩, h6⟩ := h
      subst h1 h2
      have ha := (snd_E a F h3).1 rfl
      have hb := (snd_E b F h4).1 rfl
      have hd := (snd_E d F h5).1 rfl
      exact good_two (W := W) (s_cmp2 F.sur ha hb hd h6) (t_cmp2 F.sur ha hb hd h6) fun _ _ _ z => nomatch z
    · cases h
  | .and a b, md, sc, fn, X, W, e, F, h => by
    simp only [chkE] at h
    split at h
    · rename_i a' b' pos
      rw [Bool.and_eq_true] at h
      have ha := snd_E a F h.1
      have hb := snd_E b F h.2
      refine ⟨fun m => ?_, fun m => ?_⟩
      · exact s_and (ha.1 m) (pe_one (hb.1 m))
      · have q : PW X (.BoolOp .And [a', b'] pos) _ := t_and (ha.2 m).1 (t_and1 (hb.2 m).1)
        exact ⟨q.pt, fun _ _ _ _ => q⟩
    · rw [Bool.and_eq_true] at h
      have ha := snd_E a F h.1
      have hb := snd_E b F h.2
      refine ⟨fun m => ?_, fun m => ?_⟩
      · exact s_and (ha.1 m) (hb.1 m)
      · have q := t_and (ha.2 m).1 ((hb.2 m).2 _ _ _ rfl)
        exact ⟨q.pt, fun _ _ _ _ => q⟩
    · cases h
  | .or a b, md, sc, fn, X, W, e, F, h => by
    simp only [chkE] at h
    split at h
    · rename_i a' b' pos
      rw [Bool.and_eq_true] at h
      have ha := snd_E a F h.1
      have hb := snd_E b F h.2
      refine ⟨fun m => ?_, fun m => ?_⟩
      · exact s_or (ha.1 m) (pe_one (hb.1 m))
      · have q : PW X (.BoolOp .Or [a', b'] pos) _ := t_or (ha.2 m).1 (t_or1 (hb.2 m).1)
        exact ⟨q.pt, fun _ _ _ _ => q⟩
    · rw [Bool.and_eq_true] at h
      have ha := snd_E a F h.1
      have hb := snd_E b F h.2
      refine ⟨fun m => ?_, fun m => ?_⟩
      · exact s_or (ha.1 m) (hb.1 m)
      · have q := t_or (ha.2 m).1 ((hb.2 m).2 _ _ _ rfl)
        exact ⟨q.pt, fun _ _ _ _ => q⟩
    · cases h
  | .not a, md, sc, fn, X, W, e, F, h => by
    simp only [chkE] at h
    split at h
    · have ha := snd_E a F h
      exact ⟨fun m => s_not F.sur (ha.1 m), fun m => ⟨t_not (ha.2 m).1, fun _ _ _ z => nomatch z⟩⟩
    · cases h
  | .ite t a b, md, sc, fn, X, W, e, F, h => by
    simp only [chkE] at h
    split at h
    · simp only [Bool.and_eq_true, Bool.not_eq_true'] at h
      obtain ⟨⟨⟨h1, h2⟩, h3⟩, h4⟩ := h
      exact ⟨fun _ => s_ite ((snd_E t F h2).2 rfl).1 ((snd_E a F h3).1 rfl) ((snd_E b F h4).1 rfl), fun m => by rw [h1] at m; cases m⟩
    · cases h
  | .idx a b, md, sc, fn, X, W, e, F, h => by
    simp only [chkE] at h
    split at h
    · simp only [Bool.and_eq_true] at h
      obtain ⟨⟨h1, h2⟩, h3⟩ := h
      exact good_plain F rfl (s_idx F.sur ((snd_E a F h2).1 rfl) ((snd_E b F h3).1 rfl) (plainIx_of h1))
    · cases h
  | .sli a lo hi, md, sc, fn, X, W, e, F, h => by
    simp only [chkE] at h
    split at h
    · simp only [Bool.and_eq_true] at h
      obtain ⟨⟨h1, h2⟩, h3⟩ := h
      exact good_plain F rfl (s_sli F.sur ((snd_E a F h1).1 rfl) (snd_O lo F h2) (snd_O hi F h3))
    · cases h
  | .fld a x, md, sc, fn, X, W, e, F, h => by
    simp only [chkE] at h
    split at h
    · simp only [Bool.and_eq_true, beq_iff_eq] at h
      obtain ⟨⟨⟨h1, h2⟩, h3⟩, h4⟩ := h
      subst h1
      exact good_plain F rfl (s_fld F.sur F.ok.co h2 h3 ((snd_E a F h4).1 rfl))
    · cases h
  | .call f es, md, sc, fn, X, W, e, F, h => by
    simp only [chkE] at h
    split at h
    · simp only [Bool.and_eq_true, beq_iff_eq] at h
      obtain ⟨⟨⟨⟨h1, h2⟩, h3⟩, h4⟩, h5⟩ := h
      have F' := F.calm h1
      obtain ⟨p, hs, hl⟩ := snd_Es es F h5
      exact good_plain F rfl (s_call F'.sur F.fs F.ok.ds (F.tk h1) (F.ok.fnm _ _ h2) h3 hs hl h4 p)
    · cases h
  | .make k es, md, sc, fn, X, W, e, F, h => by
    simp only [chkE] at h
    split at h
    · simp only [Bool.and_eq_true, beq_iff_eq] at h
      obtain ⟨⟨⟨⟨h1, h2⟩, h3⟩, h4⟩, h5⟩ := h
      have F' := F.calm h1
      split at h4
      · rename_i d hd
        simp only [Bool.and_eq_true, Bool.not_eq_true'] at h4
        obtain ⟨h6, h7⟩ := h4
        split at h7
        · rename_i f hf
          obtain ⟨p, hs, hl⟩ := snd_Es es F h5
          have hm : G.P.meth k "__init__" = some f := by
            unfold Prog.meth
            rw [show G.P.cls[k]? = some d from hd]
            exact hf
          exact good_plain F rfl (s_make F'.sur F.fs F.ok.ds (F.tk h1) (F.ok.cnm _ _ h2) h3 hs hl hm ⟨d, hd, h6⟩ (F.ok.mks k d f hd h6 hf) h7 p)
        · cases h7
      · cases h4
    · cases h
  | .meth a x es, md, sc, fn, X, W, e, F, h => by
    simp only [chkE] at h
    split at h
    · simp only [Bool.and_eq_true, beq_iff_eq, decide_eq_true_eq] at h
      obtain ⟨⟨⟨⟨⟨⟨⟨h1, h2⟩, h3⟩, h4⟩, h5⟩, h6⟩, h7⟩, h8⟩ := h
      subst h2
      have F' := F.calm h1
      obtain ⟨p, hs, hl⟩ := snd_Es es F h8
      refine good_plain F rfl (s_meth F'.sur F.fs F.ok.ds F.ok.co (F.tk h1) h3 hs hl (by rw [hl]; exact h4) (by rw [beq_iff_eq]; exact h5) (fun k d f hd hf => ?_) ((snd_E a F h7).1 rfl) p)
      rw [List.all_eq_true] at h6
      have := h6 d (List.mem_of_getElem? hd)
      rw [hf] at this
      exact this
    · cases h
  | .cmeth _ _ _, md, sc, fn, X, W, e, F, h => by simp [chkE] at h
  | .excIs _ _ _, md, sc, fn, X, W, e, F, h => by simp [chkE] at h
  | .excF _ _, md, sc, fn, X, W, e, F, h => by simp [chkE] at h
  | .never, md, sc, fn, X, W, e, F, h => by
    have hf : ∀ {σ : L2.St} {H : Hp} {Q : VK}, ¬ tE G xc W (cfg G.P kk) .never σ H Q := fun ⟨j, ρ, hm, re, rh, P⟩ => by
      simp only [xE] at P
      exact P
    have hf2 : ∀ {σ : L2.St} {H : Hp} {Q : Bool → Hp → Prop}, ¬ tT G xc W (cfg G.P kk) .never σ H Q := fun ⟨j, ρ, hm, re, rh, P⟩ => by
      simp only [xT, xE] at P
      exact P
    exact ⟨fun _ => ⟨fun _ _ _ _ _ _ q => (hf q).elim⟩, fun _ => ⟨⟨fun _ _ _ _ _ _ q => (hf2 q).elim⟩, fun _ _ _ _ => ⟨fun _ _ _ _ _ _ _ q => (hf2 q).elim⟩⟩⟩
  | .bf b es, md, sc, fn, X, W, e, F, h => by
    simp only [chkE] at h
    split at h
    · rename_i xs hx
      obtain ⟨p, hs, hl⟩ := snd_Es es F h
      unfold bfArgs at hx
      split at hx
      · rename_i x p1 y p2 a' p3 p4
        split at hx
        · rename_i hc
          cases hx
          simp only [Bool.and_eq_true, beq_iff_eq] at hc
          obtain ⟨⟨⟨⟨⟨⟨⟨h1, h2⟩, h3⟩, h4⟩, h5⟩, h6⟩, h7⟩, h8⟩ := hc
          subst h2 h3
          have F' := F.calm h1
          exact good_plain F rfl (s_listRg1 F'.sur (F.ok.bo _ (by simpa using h4)) h6 (F.ok.bo _ (by simpa using h5)) h7 h8 hl.symm p)
        · cases hx
      · split at hx
        · rename_i hc
          cases hx
          simp only [Bool.and_eq_true, beq_iff_eq] at hc
          obtain ⟨⟨⟨h1, h2⟩, h3⟩, h4⟩ := hc
          exact good_plain F rfl (s_bf F.sur h1 h2 (F.ok.bo _ (by simpa using h3)) h4 hs p)
        · cases hx
      · cases hx
    · cases h
  | .bm b a es, md, sc, fn, X, W, e, F, h => by
    simp only [chkE] at h
    split at h
    · simp only [Bool.and_eq_true, beq_iff_eq, decide_eq_true_eq] at h
      obtain ⟨⟨⟨⟨⟨h1, h2⟩, h3⟩, h4⟩, h5⟩, h6⟩ := h
      obtain ⟨p, hs, hl⟩ := snd_Es es F h6
      exact good_plain F rfl (s_bm F.sur h1 h2 hs hl (by rw [hl]; exact h3) (by rw [beq_iff_eq]; exact h4) ((snd_E a F h5).1 rfl) p)
    · cases h
  | .isi a ts single, md, sc, fn, X, W, e, F, h => by
    simp only [chkE] at h
    split at h
    · simp only [Bool.and_eq_true, beq_iff_eq] at h
      obtain ⟨⟨⟨⟨⟨⟨h1, h2⟩, h3⟩, h4⟩, h5⟩, h6⟩, h7⟩ := h
      exact good_plain F rfl (s_isi F.sur rfl F.ok.bo F.ok.co F.ok.io h1 h2 h3 h4 h5 h6 ((snd_E a F h7).1 rfl))
    · cases h
  | .lc elt own t it cond, md, sc, fn, X, W, e, F, h => by
    simp only [chkE] at h
    split at h
    · rename_i elt' tg it' ifs scope pos
      simp only [Bool.and_eq_true] at h
      obtain ⟨⟨⟨⟨⟨⟨⟨h1, h2⟩, h3⟩, h4⟩, h5⟩, h6⟩, h7⟩, h8⟩ := h
      have F' := F.calm h1
      have q := s_lc (xc := xc) (W := W) (c := cfg G.P kk) (own := ownOf N own) (pos := pos) F'.sur (snd_I it F h6) h2 h3 (fun s H C cl fp => g_tg F.blk.sur F.blk.hfn h4) (snd_C cond F h7) (fun s H C cl fp => (snd_E elt F.blk h8).1 rfl) (by
        rw [ownOf_snd]
        intro i hi
        rw [List.all_eq_true] at h5
        simpa using h5 i hi)
      rw [ownOf_snd] at q
      exact good_plain F rfl q
    · cases h
theorem snd_Es : ∀ (es : MEs) {sc : Scope} {fn : Str → Bool} {X : Cx} {W : WX} {xs : List Expr}, Full G kk N sc fn cm X W → chkEs G.T N cm es sc fn xs = true → PA X xs (tEs G xc W (cfg G.P kk) es) ∧ starsB xs = true ∧ xs.length = es.len
  | .nil, sc, fn, X, W, xs, F, h => by
    simp only [chkEs] at h
    split at h
    · exact ⟨s_nil, rfl, rfl⟩
    · cases h
  | .cons a r, sc, fn, X, W, xs, F, h => by
    simp only [chkEs] at h
    split at h
    · simp only [Bool.and_eq_true] at h
      obtain ⟨p, q1, q2⟩ := snd_Es r F h.2
      refine ⟨s_cons h.1.1 ((snd_E a F h.1.2).1 rfl) p, ?_, ?_⟩
      · simp only [starsB, List.all_cons, Bool.and_eq_true]
        exact ⟨h.1.1, by simpa [starsB] using q1⟩
      · simp [MEs.len, q2]
    · cases h
theorem snd_I : ∀ (it : MI) {sc : Scope} {fn : Str → Bool} {X : Cx} {W : WX} {e tg : Expr}, Full G kk N sc fn cm X W → chkI G.T N cm it sc fn e = true → PI X tg e (tI G xc W (cfg G.P kk) it)
  | .seq a, sc, fn, X, W, e, tg, F, h => by
    simp only [chkI] at h
    exact p_seq F.sur ((snd_E a F h).1 rfl)
  | .rng es, sc, fn, X, W, e, tg, F, h => by
    simp only [chkI] at h
    split at h
    · rename_i xs hx
      obtain ⟨p, hs, hl⟩ := snd_Es es F h
      unfold rngArgs at hx
      split at hx
      · split at hx
        · rename_i hc
          cases hx
          simp only [Bool.and_eq_true, beq_iff_eq] at hc
          obtain ⟨⟨h1, h2⟩, h3⟩ := hc
          subst h1
          simp only [starsB, List.all_cons, List.all_nil, Bool.and_true] at hs
          exact p_rng1 F.sur (F.ok.bo _ (by simpa using h2)) h3 hs hl.symm p
        · cases hx
      · split at hx
        · rename_i hc
          cases hx
          simp only [Bool.and_eq_true, beq_iff_eq] at hc
          obtain ⟨⟨h1, h2⟩, h3⟩ := hc
          subst h1
          simp only [starsB, List.all_cons, List.all_nil, Bool.and_true, Bool.and_eq_true] at hs
          exact p_rng2 F.sur (F.ok.bo _ (by simpa using h2)) h3 hs.1 hs.2 hl.symm p
        · cases hx
      · cases hx
    · cases h
  | .items _, sc, fn, X, W, e, tg, F, h => by simp [chkI] at h
  | .vals _, sc, fn, X, W, e, tg, F, h => by simp [chkI] at h
  | .keys _, sc, fn, X, W, e, tg, F, h => by simp [chkI] at h
  | .rev _, sc, fn, X, W, e, tg, F, h => by simp [chkI] at h
theorem snd_O : ∀ (o : MO2) {sc : Scope} {fn : Str → Bool} {X : Cx} {W : WX} {e : Option Expr}, Full G kk N sc fn cm X W → chkO G.T N cm o false sc fn e = true → PO X e (tO G xc W (cfg G.P kk) o)
  | .none, sc, fn, X, W, e, F, h => by
    simp only [chkO] at h
    cases e with
    | none => exact s_po_none
    | some e => cases h
  | .some a, sc, fn, X, W, e, F, h => by
    simp only [chkO] at h
    split at h
    · exact s_po_some ((snd_E a F h).1 rfl)
    · cases h
theorem snd_C : ∀ (o : MO2) {sc : Scope} {fn : Str → Bool} {X : Cx} {W : WX} {scope : Scope} {ifs : List Expr}, Full G kk N sc fn cm X W → chkC G.T N cm o (relS scope sc) (fun x => scope.names.lookup x == some .cell) ifs = true → BlkT G xc (cfg G.P kk) X scope ifs o
  | .none, sc, fn, X, W, scope, ifs, F, h => by
    simp only [chkC] at h
    cases ifs with
    | nil => exact ⟨fun s H C cl fp => pts_nil⟩
    | cons _ _ => cases h
  | .some a, sc, fn, X, W, scope, ifs, F, h => by
    simp only [chkC] at h
    split at h
    · exact ⟨fun s H C cl fp => pts_one ((snd_E a F.blk h).2 rfl).1⟩
    · cases h
end
end
end Mi
set_option maxHeartbeats 1000000
/-! MS16: the checker of statements, that it is right, and the defs. -/
namespace Mi
open PySem PySem.Spec PyProof.Rows L2

/-- name = [..] on one line -/
def lcSetB (T : Tab) (N : List Str) (cm : Bool) (sc : Scope) (fn : Str → Bool) (me : ME) (mt : MT) (tg e : Expr) : Bool := match me, mt, tg, e with
  | .lc elt own t it cond, .name i, .Name y py, .ListComp elt' [⟨tg2, it', ifs, 0⟩] scope pos => cm && decide (sc.kind = .function) && (N[i]? == some y) && (sc.names.lookup y == some .local) && (py.line == pos.line) && !(scope.names.any fun (n, k) => n == y && (k == .local || k == .cell)) &&
      chkE T N cm (.lc elt own t it cond) false sc fn (.ListComp elt' [⟨tg2, it', ifs, 0⟩] scope pos)
  | _, _, _, _ => false
mutual
def chkS (T : Tab) (N : List Str) (sc : Scope) (fn : Str → Bool) : MS → Bool → Stmt → Bool
  | .expr e, cm, st => (match st with
    | .Expr e' _ => notLc e' && chkE T N cm e false sc fn e'
    | _ => false)
  | .asg t e, cm, st => (match st with
    | .Assign [tg] e' _ => (tgB N sc fn cm tg t && notLc e' && notTup e' && chkE T N cm e false sc fn e') || lcSetB T N cm sc fn e t tg e'
    | _ => false)
  | .setF o f e, cm, st => (match st with
    | .Assign [.Attribute o' f' _] e' _ => (f == f') && T.flds.contains f && chkE T N cm o false sc fn o' && chkE T N cm e false sc fn e'
    | _ => false)
  | .setI o i e, cm, st => (match st with
    | .Assign [.Subscript o' i' _] e' _ => plainIxB i' && chkE T N cm o false sc fn o' && chkE T N cm i false sc fn i' && chkE T N cm e false sc fn e'
    | _ => false)
  | .ret e, cm, st => (match st with
    | .Return (some e') _ => chkE T N cm e false sc fn e'
    | _ => false)
  | .retN, cm, st => (match st with
    | .Return none _ => true
    | _ => false)
  | .pass, cm, st => (match st with
    | .Pass _ => true
    | .Expr (.Constant (.str _) _ _) _ => true
    | _ => false)
  | .brk, cm, st => (match st with
    | .Break _ => true
    | _ => false)
  | .cont, cm, st => (match st with
    | .Continue _ => true
    | _ => false)
  | .ite c a b, cm, st => (match st with
    | .If c' a' b' _ => chkE T N cm c true sc fn c' && chkSs T N sc fn a cm a' && chkSs T N sc fn b cm b'
    | _ => false)
  | .loop t it body, cm, st => (match st with
    | .For tg it' body' [] _ => cm && tgB N sc fn cm tg t && notSet it' && chkI T N cm it sc fn it' && chkSs T N sc fn body cm body'
    | _ => false)
  | .wh c body, cm, st => (match st with
    | .While c' body' [] _ => chkE T N cm c true sc fn c' && chkSs T N sc fn body cm body'
    | _ => false)
  | .never, cm, st => true
  | _, _, _ => false
def chkSs (T : Tab) (N : List Str) (sc : Scope) (fn : Str → Bool) : MSs → Bool → List Stmt → Bool
  | .nil, cm, ss => ss.isEmpty
  | .cons s r, cm, ss => (match ss with
    | s' :: r' => chkS T N sc fn s cm s' && chkSs T N sc fn r cm r'
    | [] => false)
end
/-- .. of a statement -/
structure FullS (G : Glb) (kk : Nat) (N : List Str) (sc : Scope) (fn : Str → Bool) (cm : Bool) (X : Cx) (W : WX) : Prop where
  f : Full G kk N sc fn cm X W
  po : PassesOwn (model X.prog X.w) X.A X.env X.xe
section
variable {G : Glb} {kk : Nat} {N : List Str} {sc : Scope} {fn : Str → Bool}
theorem snd_lcSet {xc : Xc} {cm : Bool} {X : Cx} {W : WX} (F : Full G kk N sc fn cm X W) {me : ME} {mt : MT} {tg e : Expr} {pos : Pos} (h : lcSetB G.T N cm sc fn me mt tg e = true) : PS X (.Assign [tg] e pos) (tS G xc W (xS (cfg G.P kk) (.asg mt me))) := by
  unfold lcSetB at h
  split at h
  · rename_i elt own t it cond i y py elt' tg2 it' ifs scope pos2
    simp only [Bool.and_eq_true, beq_iff_eq, decide_eq_true_eq, Bool.not_eq_true'] at h
    obtain ⟨⟨⟨⟨⟨⟨h1, h2⟩, h3⟩, h4⟩, h5⟩, h6⟩, h⟩ := h
    have F' := F.calm h1
    simp only [chkE, Bool.and_eq_true] at h
    obtain ⟨⟨⟨⟨⟨⟨⟨_, g2⟩, g3⟩, g4⟩, g5⟩, g6⟩, g7⟩, g8⟩ := h
    have q := s_setLc (xc := xc) (W := W) (c := cfg G.P kk) (own := ownOf N own) (py := py) (pos := pos2) (spos := pos) F'.sur h2 h3 h4 (by rw [beq_iff_eq]; exact h5) h6 (snd_I it F g6) g2 g3 (fun s H C cl fp => g_tg F.blk.sur F.blk.hfn g4) (snd_C cond F g7) (fun s H C cl fp => (snd_E elt F.blk g8).1 rfl) (by
      rw [ownOf_snd]
      intro i hi
      rw [List.all_eq_true] at g5
      simpa using g5 i hi)
    rw [ownOf_snd] at q
    exact q
  · cases h
theorem asgEach {T : List Str} {tg : Expr} {mt : MT} {cm : Bool} {env : Env} (h : tgB T sc fn cm tg mt = true) : (assignEach [tg] env).map (·.2) = [assign tg env] := by
  unfold tgB at h
  split at h
  · rfl
  · rfl
  · cases h
mutual
theorem snd_S : ∀ (s : MS) {cm : Bool} {X : Cx} {W : WX} {xc : Xc} {st : Stmt}, FullS G kk N sc fn cm X W → chkS G.T N sc fn s cm st = true → PS X st (tS G xc W (xS (cfg G.P kk) s))
  | .expr e, cm, X, W, xc, st, F, h => by
    simp only [chkS] at h
    split at h
    · simp only [Bool.and_eq_true] at h
      exact s_expr h.1 ((snd_E e F.f h.2).1 rfl)
    · cases h
  | .asg t e, cm, X, W, xc, st, F, h => by
    simp only [chkS] at h
    split at h
    · rw [Bool.or_eq_true] at h
      rcases h with h | h
      · simp only [Bool.and_eq_true] at h
        obtain ⟨⟨⟨h1, h2⟩, h3⟩, h4⟩ := h
        exact s_asg ((snd_E e F.f h4).1 rfl) (gM_of (g_tg F.f.sur F.f.hfn h1)) (sw_not h2) (swp_not h3) (asgEach h1)
      · exact snd_lcSet F.f h
    · cases h
  | .setF o f e, cm, X, W, xc, st, F, h => by
    simp only [chkS] at h
    split at h
    · simp only [Bool.and_eq_true, beq_iff_eq] at h
      obtain ⟨⟨⟨h1, h2⟩, h3⟩, h4⟩ := h
      subst h1
      exact s_setF F.f.sur (fun c d hc he => ⟨F.f.ok.co.cls c d hc he, F.f.ok.co.noat c d f hc he (by simpa using h2)⟩) ((snd_E o F.f h3).1 rfl) ((snd_E e F.f h4).1 rfl)
    · cases h
  | .setI o i e, cm, X, W, xc, st, F, h => by
    simp only [chkS] at h
    split at h
    · simp only [Bool.and_eq_true] at h
      obtain ⟨⟨⟨h1, h2⟩, h3⟩, h4⟩ := h
      exact s_setI F.f.sur h1 ((snd_E o F.f h2).1 rfl) ((snd_E i F.f h3).1 rfl) ((snd_E e F.f h4).1 rfl)
    · cases h
  | .ret e, cm, X, W, xc, st, F, h => by
    simp only [chkS] at h
    split at h
    · exact s_ret ((snd_E e F.f h).1 rfl)
    · cases h
  | .retN, cm, X, W, xc, st, F, h => by
    simp only [chkS] at h
    split at h
    · exact s_retN
    · cases h
  | .pass, cm, X, W, xc, st, F, h => by
    simp only [chkS] at h
    split at h
    · exact s_pass
    · exact s_doc
    · cases h
  | .brk, cm, X, W, xc, st, F, h => by
    simp only [chkS] at h
    split at h
    · exact s_brk
    · cases h
  | .cont, cm, X, W, xc, st, F, h => by
    simp only [chkS] at h
    split at h
    · exact s_cont
    · cases h
  | .ite c a b, cm, X, W, xc, st, F, h => by
    simp only [chkS] at h
    split at h
    · simp only [Bool.and_eq_true] at h
      exact s_if ((snd_E c F.f h.1.1).2 rfl).1 (snd_Ss a F h.1.2) (snd_Ss b F h.2)
    · cases h
  | .loop t it body, cm, X, W, xc, st, F, h => by
    simp only [chkS] at h
    split at h
    · simp only [Bool.and_eq_true] at h
      obtain ⟨⟨⟨⟨h1, h2⟩, h3⟩, h4⟩, h5⟩ := h
      exact s_loop F.po (F.f.sur.calm h1) (snd_I it F.f h4) (gM_of (g_tg F.f.sur F.f.hfn h2)) (snd_Ss body F h5) (fold_of h3)
    · cases h
  | .wh c body, cm, X, W, xc, st, F, h => by
    simp only [chkS] at h
    split at h
    · simp only [Bool.and_eq_true] at h
      exact s_wh F.po ((snd_E c F.f h.1).2 rfl).1 (snd_Ss body F h.2)
    · cases h
  | .raise _ _, cm, X, W, xc, st, F, h => by simp [chkS] at h
  | .tr _ _ _ _, cm, X, W, xc, st, F, h => by simp [chkS] at h
  | .never, cm, X, W, xc, st, F, h => by
    refine ⟨fun _ _ _ _ _ _ ⟨j, ρ, hm, re, rh, P⟩ => ?_⟩
    simp only [xS] at P
    exact P.elim
theorem snd_Ss : ∀ (s : MSs) {cm : Bool} {X : Cx} {W : WX} {xc : Xc} {ss : List Stmt}, FullS G kk N sc fn cm X W → chkSs G.T N sc fn s cm ss = true → PSs X ss (tS G xc W (xB (cfg G.P kk) s))
  | .nil, cm, X, W, xc, ss, F, h => by
    simp only [chkSs] at h
    cases ss with
    | nil => exact s_sNil
    | cons _ _ => cases h
  | .cons s r, cm, X, W, xc, ss, F, h => by
    simp only [chkSs] at h
    split at h
    · rw [Bool.and_eq_true] at h
      exact s_sCons (snd_S s F h.1) (snd_Ss r F h.2)
    · cases h
end
end
/-! ### the defs -/
/-- where a def stands in the row -/
structure DefAt (G : Glb) (i : Nat) (d : FnD) : Prop where
  ex : ∃ (x qual : Str) (params : Arguments) (body : List Stmt) (scope : Scope) (N : List Str) (dvs : List V) (kws : List (Str × V)), FunD G.K x qual params body scope dvs kws (G.fa i) (G.fd i) ∧ FnScope N (G.ps i) scope ∧ N.length = d.ns ∧ chkSs G.T N scope (fun _ => true) d.body true body = true
theorem re_start {G : Glb} {j : List Addr} {H : Hp} {d : FnD} {N : List Str} {ms : List MV} {vs : List V} (h : VRs G j H ms vs) (hn : N.length = d.ns) (hp : ms.length = d.np) : RE G j H none (d.start ms) (start N vs) := by
  have hl := h.length
  refine ⟨?_, fun i m e => ?_⟩
  · simp only [FnD.start, L2.start, List.length_append, List.length_map, List.length_replicate]
    omega
  · left
    unfold FnD.start at e
    unfold L2.start
    by_cases hi : i < ms.length
    · rw [List.getElem?_append_left (by simpa using hi), List.getElem?_map] at e
      cases e2 : ms[i]? with
      | none => rw [e2] at e; cases e
      | some m' =>
        rw [e2] at e
        cases e
        obtain ⟨v, h1, h2⟩ := h.get e2
        refine ⟨v, ?_, h2⟩
        rw [List.getElem?_append_left (by rw [List.length_map]; omega), List.getElem?_map, h1]
        rfl
    · rw [List.getElem?_append_right (by simpa using hi), List.getElem?_replicate] at e
      split at e <;> cases e
theorem fns_at {G : Glb} (ok : Gok G) (df : ∀ i d, G.P.fns[i]? = some d → DefAt G i d) : ∀ kk, FnsAt G kk := by
  intro kk
  induction kk with
  | zero =>
    intro i d e
    exact ⟨fun vs H Q E h => h.1, fun A outer s H args us vs Q E _ _ _ _ ⟨_, j, hm, ms, _, _, P⟩ => by
      simp only [callN] at P
      exact P.elim⟩
  | succ kk ih =>
    intro i d e
    obtain ⟨x, qual, params, body, scope, N, dvs, kws, FD, S, hN, hc⟩ := (df i d e).ex
    show FnOk _ _ _ _ _ _ (2 * kk + 1 + 1) _ _ _ _
    refine FD.ok S (fun vs H Q E h => h.1) fun cdv A outer s H vs Q E hr ⟨hl, j, hm, ms, rh, rv, P⟩ => ?_
    have F : FullS G kk N scope (fun _ => true) true (cxOf (CX G.prog G.w) G.prog G.w G.K G.mg G.base N qual scope (G.fa i) cdv A outer s H E) (fun cls d _ H => E cls d H) := by
      refine ⟨⟨⟨⟨rfl, rfl, rfl, rfl, rfl⟩, rfl, S.nd, rfl, ?_, fun _ => rfl, fun _ => hr⟩, fun _ _ => rfl, fun _ => takes_of rfl ?_ rfl rfl, ih, ok⟩, passes_of rfl⟩
      · have := hr.un
        show (A.deeper _).units + 65 < cLine
        omega
      · show (envOfC qual scope s.heap.objs.size (G.fa i) cdv).frame = some (envOfC qual scope s.heap.objs.size (G.fa i) cdv).locals
        rfl
    refine ⟨_, snd_Ss d.body (xc := none) F hc, ?_⟩
    have hl2 : ms.length = d.np := by rw [rv.length, hl, (ok.ds i d e).len]
    have hfill : d.fill ms = ms := by
      unfold FnD.fill
      rw [hl2, Nat.add_sub_cancel, List.drop_length, List.append_nil]
    simp only [callN, e, hfill, hl2, if_true] at P
    refine ⟨j, d.start ms, hm, re_start rv hN hl2, rh, ?_⟩
    cases eo : xB (cfg G.P kk) d.body (d.start ms) hm with
    | nx ρ h =>
      rw [eo] at P
      exact fun j2 H2 σ f2 rh2 _ => P j2 H2 .non f2 rh2 .non
    | rt v h =>
      rw [eo] at P
      exact P
    | bk ρ h => rw [eo] at P; exact P.elim
    | ct ρ h => rw [eo] at P; exact P.elim
    | ex x ρ h =>
      rw [eo] at P
      exact fun j2 H2 cls d σ f2 rh2 _ xr => P j2 H2 cls d f2 rh2 xr
    | bad => rw [eo] at P; exact P.elim
end Mi
set_option maxHeartbeats 1000000
/-! MH: the head: what is read of the heap behind the top, and what follows from it. -/
namespace Mi
open PySem PySem.Spec PyProof.Rows L2

/-- a law's text, and where its defs and classes stand -/
structure LawD where
  T : Tab
  fn : List He.DefD
  ps : List (List Str)
  ns : List (List Str)
  cn : List Str
  at_ : Nat → Str × Option Str
  law : Nat
def LawD.fa (L : LawD) (K : PySem.W.Frag) (i : Nat) : Addr := He.fAd K (L.at_ i)
def LawD.ca (L : LawD) (K : PySem.W.Frag) (i : Nat) : Addr := He.ga K (L.cn.getD i Str.empty)
mutual
/-- a constant's value -/
def conB (K : PySem.W.Frag) : MV → Value → Bool
  | .non, u => (match u with | .none => true | _ => false)
  | .bl b, u => (match u with | .bool c => b == c | _ => false)
  | .int i, u => (match u with | .int j _ => decide (i = j) | _ => false)
  | .str x, u => (match u with | .str y _ => decide (x = y) | _ => false)
  | .tup vs, u => (match u with
    | .ref a => (match K.lookup a with
      | some ⟨.type c, _, .seq its _, _⟩ => decide (c = "tuple") && (decide (its.size ≤ sizeLine) && conBs K vs its.toList)
      | _ => false)
    | _ => false)
  | _, _ => false
def conBs (K : PySem.W.Frag) : List MV → List Value → Bool
  | [], us => us.isEmpty
  | v :: vs, us => (match us with
    | u :: us => conB K v u && conBs K vs us
    | [] => false)
end
mutual
theorem conB_ok {G : Glb} : ∀ (m : MV) (u : Value), conB G.K m u = true → ∃ v, RelV v u ∧ ∀ j H, VR G j H m v
  | .non, u, h => by
    cases u with
    | none => exact ⟨.non, rfl, fun _ _ => .non⟩
    | _ => simp [conB] at h
  | .bl b, u, h => by
    cases u with
    | bool c =>
      simp only [conB, beq_iff_eq] at h
      subst h
      exact ⟨.bl b, rfl, fun _ _ => .bl b⟩
    | _ => simp [conB] at h
  | .int i, u, h => by
    cases u with
    | int c t =>
      simp only [conB, decide_eq_true_eq] at h
      subst h
      exact ⟨.int i, ⟨t, rfl⟩, fun _ _ => .int i⟩
    | _ => simp [conB] at h
  | .str i, u, h => by
    cases u with
    | str c t =>
      simp only [conB, decide_eq_true_eq] at h
      subst h
      exact ⟨.str i, ⟨t, rfl⟩, fun _ _ => .str i⟩
    | _ => simp [conB] at h
  | .tup vs, u, h => by
    cases u with
    | ref a =>
      simp only [conB] at h
      split at h
      · rename_i c dd its n sl e
        simp only [Bool.and_eq_true, decide_eq_true_eq] at h
        obtain ⟨h1, h2, h3⟩ := h
        obtain ⟨xs, r, q⟩ := conBs_ok vs its.toList h3
        subst h1
        exact ⟨.ref a, rfl, fun j H => .tup (.inr ⟨_, its, n, e, rfl, rfl, h2, r⟩) (q j H)⟩
      · cases h
    | _ => simp [conB] at h
  | .rol _, u, h => by simp [conB] at h
  | .ref _, u, h => by simp [conB] at h
  | .exn _ _, u, h => by simp [conB] at h
theorem conBs_ok {G : Glb} : ∀ (ms : List MV) (us : List Value), conBs G.K ms us = true → ∃ vs, Vals vs us ∧ ∀ j H, VRs G j H ms vs
  | [], us, h => by
    simp only [conBs] at h
    cases us with
    | nil => exact ⟨[], .nil, fun _ _ => .nil⟩
    | cons _ _ => cases h
  | m :: ms, us, h => by
    simp only [conBs] at h
    split at h
    · rename_i u us
      rw [Bool.and_eq_true] at h
      obtain ⟨v, r1, q1⟩ := conB_ok m u h.1
      obtain ⟨vs, r2, q2⟩ := conBs_ok ms us h.2
      exact ⟨v :: vs, .cons r1 r2, fun j H => .cons (q1 j H) (q2 j H)⟩
    · cases h
end
def tysAll : List Ty := [.int, .bool, .list, .tuple, .dict, .str]
/-- what is looked at of one class -/
def clsB (L : LawD) (K : PySem.W.Frag) (c : Nat) (d : ClD) : Bool :=
  if d.exc = true then d.meths.isEmpty else
  (He.Fa.cls (L.cn.getD c Str.empty)).ok K && (L.T.flds.all fun x => (He.Fa.noat (L.cn.getD c Str.empty) x).ok K) &&
  (d.meths.all fun p => He.eqO (PySem.W.findIn K (.ref (L.ca K c)) p.1) (some (some (.ref (L.fa K p.2)))) && PySem.W.isFn K (.ref (L.fa K p.2)) && PySem.W.keepIn K (.ref (L.fa K p.2))) &&
  (match d.meths.lookup ("__init__" : Str) with
    | some _ => PySem.W.makesIn K (L.ca K c) && PySem.W.keepIn K (.ref (L.ca K c))
    | none => true) &&
  He.eqO (PySem.W.findIn K (.ref (L.ca K c)) "__class__") (some (some (.builtin "object.__class__"))) && decide (PySem.W.mroIn K (L.ca K c) (.type "object") = some true) &&
  (tysAll.all fun t => decide (PySem.W.kitOne K (.ref (L.ca K c)) (.type (tyName t)) = some false))
def clsAll (L : LawD) (K : PySem.W.Frag) : Nat → List ClD → Bool
  | _, [] => true
  | c, d :: ds => clsB L K c d && clsAll L K (c + 1) ds
theorem clsAll_ok {L : LawD} {K : PySem.W.Frag} : ∀ {ds : List ClD} {n : Nat}, clsAll L K n ds = true → ∀ (c : Nat) (d : ClD), ds[c]? = some d → clsB L K (n + c) d = true
  | [], n, h, c, d, e => by simp at e
  | x :: xs, n, h, c, d, e => by
    simp only [clsAll, Bool.and_eq_true] at h
    cases c with
    | zero => simp at e; subst e; exact h.1
    | succ c =>
      have := clsAll_ok h.2 c d (by simpa using e)
      rw [show n + (c + 1) = n + 1 + c by omega]
      exact this
/-- all that is looked at -/
def factsB (L : LawD) (K : PySem.W.Frag) : Bool :=
  (L.T.fnm.all fun p => He.eqO (PySem.W.nsIn K mainGlobals p.1) (some (some (.ref (L.fa K p.2))))) &&
  (L.T.cnm.all fun p => He.eqO (PySem.W.nsIn K mainGlobals p.1) (some (some (.ref (L.ca K p.2))))) &&
  (L.T.blts.all fun x => He.eqO (PySem.W.nsIn K mainGlobals x) (some none)) &&
  (L.T.P.cons.all fun p => (match PySem.W.nsIn K mainGlobals p.1 with
    | some (some u) => conB K p.2 u
    | _ => false)) &&
  clsAll L K 0 L.T.P.cls &&
  decide (PySem.W.specialIn K (.builtin "object.__class__") "__get__" = some (some (.builtin "getset_descriptor.__get__"))) && decide (PySem.W.takesIn K (.builtin "object.__class__") = some true)
def obsM (L : LawD) (K : PySem.W.Frag) : He.AlD := (factsB L K && L.fn.all fun d => d.ok K, L.fn.map fun d => He.fnW K d.at_)
def SaysM (L : LawD) (K : PySem.W.Frag) : Prop := obsM L K = He.valD L.fn
def obsMG (n : Nat) (L : LawD) (g : Addr → Option Obj) : He.AlD := obsM L (He.frG g (He.asD g n))
def hookM (n : Nat) (L : LawD) : PySem.W.Hook where
  α := He.AlD
  obs := fun s => obsMG n L s.heap.get?
  val := fun _ => He.valD L.fn
  says := fun _ h => ∃ K : PySem.W.Frag, K.In h ∧ SaysM L K
  of := fun _ _ e => ⟨_, He.frG_in, e⟩
  keeps := fun _ _ _ ⟨K, hK, c⟩ k => ⟨K, PySem.W.Frag.In.keeps hK k, c⟩
theorem obsMG_eq {n : Nat} {L : LawD} {g : Addr → Option Obj} {s : Shared} (h : ∀ a, g a = s.heap.get? a) : obsMG n L g = (hookM n L).obs s := by
  have e : g = s.heap.get? := funext h
  rw [e] <;> rfl
theorem SaysM.facts {L : LawD} {K : PySem.W.Frag} (c : SaysM L K) : factsB L K = true := (He.ba (show (factsB L K && L.fn.all fun d => d.ok K) = true from congrArg (fun z : He.AlD => z.1) c)).1
theorem SaysM.def_ {L : LawD} {K : PySem.W.Frag} (c : SaysM L K) {i : Nat} {d : He.DefD} (h : L.fn[i]? = some d) : ∃ fd, FunD K d.name d.qual d.params d.body d.scope (d.dvs K) (d.kws K) (He.fAd K d.at_) fd := by
  have c2 := (He.ba (show (factsB L K && L.fn.all fun d => d.ok K) = true from congrArg (fun z : He.AlD => z.1) c)).2
  have e : L.fn.map (fun d => He.fnW K d.at_) = L.fn.map He.DefD.val := congrArg (fun z : He.AlD => z.2) c
  have e2 : (L.fn.map fun d => He.fnW K d.at_)[i]? = (L.fn.map He.DefD.val)[i]? := by rw [e]
  rw [List.getElem?_map, List.getElem?_map, h] at e2
  exact He.DefD.funD (Option.some.inj e2) (List.all_eq_true.mp c2 d (List.mem_of_getElem? h))
/-- a simple default -/
def dvOf : MV → Option He.Dv
  | .non => some .non
  | .bl b => some (.bl b)
  | .int i => some (.int i)
  | .str x => some (.str x)
  | _ => none
theorem dv_vr {G : Glb} {m : MV} {d : He.Dv} (h : dvOf m = some d) (j : List Addr) (H : Hp) : VR G j H m (d.v G.K) := by
  cases m <;> first | (cases h; done) | skip
  · cases h; exact .non
  · cases h; exact .bl _
  · cases h; exact .int _
  · cases h; exact .str _
def dvsB : List MV → List He.Dv → Bool
  | [], [] => true
  | m :: ms, d :: ds => (match m, d with
    | .non, .non => true
    | .bl b, .bl c => b == c
    | .int i, .int k => decide (i = k)
    | .str x, .str y => decide (x = y)
    | _, _ => false) && dvsB ms ds
  | _, _ => false
theorem dvsB_ok {G : Glb} (j : List Addr) (H : Hp) : ∀ {ms : List MV} {ds : List He.Dv}, dvsB ms ds = true → VRs G j H ms (ds.map (He.Dv.v G.K))
  | [], [], _ => .nil
  | [], _ :: _, h => by simp [dvsB] at h
  | _ :: _, [], h => by simp [dvsB] at h
  | m :: ms, d :: ds, h => by
    simp only [dvsB, Bool.and_eq_true] at h
    refine .cons ?_ (dvsB_ok j H h.2)
    have h1 := h.1
    split at h1
    · exact .non
    · rw [beq_iff_eq] at h1; subst h1; exact .bl _
    · rw [decide_eq_true_eq] at h1; subst h1; exact .int _
    · rw [decide_eq_true_eq] at h1; subst h1; exact .str _
    · cases h1
/-- what a def's parameters bind (told by rfl, def by def) -/
def BindT (x qual : Str) (params : Arguments) (body : List Stmt) (scope : Scope) (ps : List Str) (m : Nat) : Prop :=
  (m = 0 → ∀ (kV doc pm : Value) (an : Option Addr) (cdv ct : Value) (us : List Value), us.length = ps.length → bindArgs (PySem.W.fnOf x qual params body scope .none kV doc pm an cdv ct) ⟨us, []⟩ = pure (ps.zip us)) ∧
  (m ≠ 0 → ∀ n, n ≤ ps.length → ps.length ≤ n + m → ∀ (T : Addr) (kV doc pm : Value) (an : Option Addr) (cdv ct : Value) (us its : List Value), us.length = n → its.length = m →
    ∃ k, bindArgs (PySem.W.fnOf x qual params body scope (.ref T) kV doc pm an cdv ct) ⟨us, []⟩ = seqItems? (.ref T) >>= k ∧ k (some its.toArray) = pure (ps.zip (us ++ its.drop (m + n - ps.length))))
/-- what is told of a def of the text -/
structure DefT (L : LawD) (i : Nat) (d : FnD) : Prop where
  ex : ∃ (dd : He.DefD) (ps N : List Str), L.fn[i]? = some dd ∧ L.ps[i]? = some ps ∧ L.ns[i]? = some N ∧ dd.at_ = L.at_ i ∧ dd.kwd = [] ∧ dvsB d.dfl dd.dfl = true ∧ ps.length = d.np ∧ N.length = d.ns ∧ FnScope N ps dd.scope ∧
    chkSs L.T N dd.scope (fun _ => true) d.body true dd.body = true ∧ BindT dd.name dd.qual dd.params dd.body dd.scope ps d.dfl.length
inductive AllT (L : LawD) : Nat → List FnD → Prop
  | nil {n} : AllT L n []
  | cons {n d ds} : DefT L n d → AllT L (n + 1) ds → AllT L n (d :: ds)
theorem AllT.at {L : LawD} {n : Nat} {ds : List FnD} (h : AllT L n ds) : ∀ (i : Nat) (d : FnD), ds[i]? = some d → DefT L (n + i) d := by
  induction h with
  | nil => intro i d e; simp at e
  | @cons n x xs h1 _ ih =>
    intro i d e
    cases i with
    | zero => simp at e; subst e; exact h1
    | succ i =>
      have := ih i d (by simpa using e)
      rwa [show n + (i + 1) = n + 1 + i by omega]
theorem AllT.get {L : LawD} {ds : List FnD} (h : AllT L 0 ds) (i : Nat) (d : FnD) (e : ds[i]? = some d) : DefT L i d := by
  have := h.at i d e
  rwa [Nat.zero_add] at this
theorem dvsB_len : ∀ {ms : List MV} {ds : List He.Dv}, dvsB ms ds = true → ms.length = ds.length
  | [], [], _ => rfl
  | [], _ :: _, h => by simp [dvsB] at h
  | _ :: _, [], h => by simp [dvsB] at h
  | m :: ms, d :: ds, h => by
    simp only [dvsB, Bool.and_eq_true] at h
    simp [dvsB_len h.2]
section
variable (L : LawD) (P : Program) (w : World) (K : PySem.W.Frag) (mg : Str → Option Value) (base : Heap)
open Classical in
noncomputable def LawD.fd (i : Nat) : FuncData := if h : ∃ fd : FuncData, ∀ dd : He.DefD, L.fn[i]? = some dd → FunD K dd.name dd.qual dd.params dd.body dd.scope (dd.dvs K) (dd.kws K) (He.fAd K dd.at_) fd then h.choose else default
noncomputable def LawD.G : Glb := ⟨P, w, K, mg, base, L.T, L.fa K, L.fd K, fun i => (L.ps[i]?).getD [], L.ca K⟩
end
section
variable {L : LawD} {P : Program} {w : World} {K : PySem.W.Frag} {mg : Str → Option Value} {base : Heap}
theorem LawD.fd_ok (c : SaysM L K) {i : Nat} {dd : He.DefD} (h : L.fn[i]? = some dd) : FunD K dd.name dd.qual dd.params dd.body dd.scope (dd.dvs K) (dd.kws K) (He.fAd K dd.at_) (L.fd K i) := by
  have h0 : ∃ fd : FuncData, ∀ dd : He.DefD, L.fn[i]? = some dd → FunD K dd.name dd.qual dd.params dd.body dd.scope (dd.dvs K) (dd.kws K) (He.fAd K dd.at_) fd := by
    obtain ⟨fd, q⟩ := c.def_ h
    refine ⟨fd, fun dd' h' => ?_⟩
    rw [h] at h'
    cases h'
    exact q
  unfold LawD.fd
  rw [dif_pos h0]
  exact h0.choose_spec dd h
theorem G_defs (c : SaysM L K) (dt : ∀ (i : Nat) (d : FnD), L.T.P.fns[i]? = some d → DefT L i d) (i : Nat) (d : FnD) (e : L.T.P.fns[i]? = some d) : DefAt (L.G P w K mg base) i d ∧ DefOk (L.G P w K mg base) i d := by
  obtain ⟨dd, ps, N, h1, h2, h3, h4, h5, h6, h7, h8, h9, h10, h11⟩ := (dt i d e).ex
  have F := LawD.fd_ok c h1
  have ep : (L.G P w K mg base).ps i = ps := by
    show (L.ps[i]?).getD [] = ps
    rw [h2]
    rfl
  have ef : He.fAd K dd.at_ = (L.G P w K mg base).fa i := by
    show He.fAd K dd.at_ = He.fAd K (L.at_ i)
    rw [h4]
  have F' : FunD (L.G P w K mg base).K dd.name dd.qual dd.params dd.body dd.scope (dd.dvs K) (dd.kws K) ((L.G P w K mg base).fa i) ((L.G P w K mg base).fd i) := by
    rw [← ef]
    exact F
  have ek : dd.kws K = [] := by
    unfold He.DefD.kws
    rw [h5]
    rfl
  have hl := dvsB_len h6
  refine ⟨⟨dd.name, dd.qual, dd.params, dd.body, dd.scope, N, dd.dvs K, dd.kws K, F', by rw [ep]; exact h9, h8, h10⟩, ⟨by rw [ep]; exact h7, F'.kp, fun n hn1 hn2 => ?_⟩⟩
  rw [ek] at F'
  by_cases hm : d.dfl.length = 0
  · have en : n = d.np := by omega
    have e0 : dd.dvs K = [] := by
      unfold He.DefD.dvs
      have : dd.dfl.length = 0 := by omega
      rw [List.length_eq_zero_iff.mp this]
      rfl
    have e1 : d.dfl = [] := List.length_eq_zero_iff.mp hm
    rw [e0] at F'
    refine ⟨[], [], fun j H => by rw [e1]; simpa using VRs.nil, .nil, FunD.bindsN F' ?_⟩
    rw [ep]
    exact h11.1 hm
  · have hne : dd.dvs K ≠ [] := by
      intro z
      unfold He.DefD.dvs at z
      have := congrArg List.length z
      rw [List.length_map] at this
      simp at this
      rw [this] at hl
      exact hm (by simpa using hl)
    have hdl : (dd.dvs K).length = d.dfl.length := by
      unfold He.DefD.dvs
      rw [List.length_map]
      exact hl.symm
    obtain ⟨ds, r, bb⟩ := FunD.binds1 F' (ps := (L.G P w K mg base).ps i) n (d.dfl.length + n - d.np) hne (by rw [ep, hdl]; omega) (by
      rw [ep]
      intro T kV doc pm an cdv ct us its hu hi
      have := h11.2 hm n (by omega) (by omega) T kV doc pm an cdv ct us its hu (by rw [hi, hdl])
      rw [h7] at this
      exact this)
    exact ⟨_, ds, fun j H => (dvsB_ok (G := L.G P w K mg base) j H h6).drop _, r, bb⟩
theorem lookup_mem {α : Type} {l : List (Str × α)} {x : Str} {a : α} (h : l.lookup x = some a) : (x, a) ∈ l := PySem.mem_of_lookup h
theorem G_ok (c : SaysM L K) {h : Heap} (X : K.In h) (Gn : h.Ns mainGlobals mg) (dt : ∀ (i : Nat) (d : FnD), L.T.P.fns[i]? = some d → DefT L i d) : Gok (L.G P w K mg base) := by
  have f := c.facts
  unfold factsB at f
  simp only [Bool.and_eq_true, decide_eq_true_eq] at f
  obtain ⟨⟨⟨⟨⟨⟨f1, f2⟩, f3⟩, f4⟩, f5⟩, f6⟩, f7⟩ := f
  have cb : ∀ (k : Nat) (d : ClD), L.T.P.cls[k]? = some d → clsB L K k d = true := fun k d e => by
    have := clsAll_ok f5 k d e
    rwa [Nat.zero_add] at this
  have cx : ∀ (k : Nat) (d : ClD), L.T.P.cls[k]? = some d → d.exc = false → _ := fun k d e he => by
    have q := cb k d e
    unfold clsB at q
    rw [if_neg (by rw [he]; decide)] at q
    simp only [Bool.and_eq_true, decide_eq_true_eq] at q
    exact q
  refine ⟨fun i d e => (G_defs c dt i d e).2, ⟨fun k d e he => ?_, fun k d m f e he hf => ?_, fun k d x e he hx => ?_, fun k d m f e hf => ?_⟩, ⟨f6, f7, fun k d e he => ?_, fun k d e he => ?_, fun k d t e he ht => ?_⟩, fun x hx => ?_, fun i x m e => ?_, fun x i e => ?_, fun x i e => ?_, fun k d f e he hf => ?_⟩
  · exact He.cls_ok (cx k d e he).1.1.1.1.1.1
  · have q := (cx k d e he).1.1.1.1.2
    rw [List.all_eq_true] at q
    have q := q _ (lookup_mem hf)
    simp only [Bool.and_eq_true] at q
    exact ⟨He.eqO_ok q.1.1, q.1.2, q.2⟩
  · have q := (cx k d e he).1.1.1.1.1.2
    rw [List.all_eq_true] at q
    exact He.noat_ok (q x hx)
  · cases he : d.exc with
    | false => rfl
    | true =>
      have q := cb k d e
      unfold clsB at q
      rw [if_pos he] at q
      have : d.meths = [] := by simpa using q
      rw [this] at hf
      simp at hf
  · exact He.eqO_ok (cx k d e he).1.1.2
  · exact (cx k d e he).1.2
  · have q := (cx k d e he).2
    rw [List.all_eq_true] at q
    have ht2 : t ∈ tysAll := by cases t <;> first | (simp [tysAll]; done) | (simp [tyB] at ht)
    have := q t ht2
    rwa [decide_eq_true_eq] at this
  · rw [List.all_eq_true] at f3
    exact PySem.W.mg_none_of X Gn (He.eqO_ok (f3 x hx))
  · rw [List.all_eq_true] at f4
    have q := f4 (x, m) (List.mem_of_getElem? e)
    split at q
    · rename_i u eu
      obtain ⟨v, r, qq⟩ := conB_ok (G := L.G P w K mg base) m u q
      exact ⟨v, u, PySem.W.mg_of X Gn eu, r, qq⟩
    · cases q
  · rw [List.all_eq_true] at f1
    exact PySem.W.mg_of X Gn (He.eqO_ok (f1 _ (lookup_mem e)))
  · rw [List.all_eq_true] at f2
    exact PySem.W.mg_of X Gn (He.eqO_ok (f2 _ (lookup_mem e)))
  · have q := (cx k d e he).1.1.1.2
    rw [hf] at q
    simp only [Bool.and_eq_true] at q
    have q2 := (cx k d e he).1.1.1.1.2
    rw [List.all_eq_true] at q2
    have q2 := q2 _ (lookup_mem hf)
    simp only [Bool.and_eq_true] at q2
    exact ⟨q.1, He.eqO_ok q2.1.1, q2.1.2, q.2⟩
/-- the law's promise -/
def spLaw (K : PySem.W.Frag) : Sp := fun vs H Q _ => ∃ (a : Addr) (ns : List Int), vs = [.ref a] ∧ ns.length ≤ 63 ∧ Only H ∧ SqL K H a (ns.map V.int) ∧ ∀ H', Q (.bl true) H'
theorem only_sqP {H : Hp} {a : Addr} {xs : List V} (o : Only H) (h : SqL K H a xs) : SqP K H a xs := by
  rcases h with (h | h) | ⟨ob, its, n, h1, h2, h3, h4, h5, h6⟩
  · rcases o a with e | ⟨b, ys, e⟩
    · rw [h] at e; cases e
    · rw [h] at e; cases e
  · exact .inl h
  · exact .inr ⟨ob, its, n, h1, h2, h3, h4, h5, h6⟩
theorem law_fn (c : SaysM L K) {h : Heap} (X : K.In h) (Gn : h.Ns mainGlobals mg) (dt : ∀ (i : Nat) (d : FnD), L.T.P.fns[i]? = some d → DefT L i d) {kk : Nat} {d : FnD} {x : Str} (hd : L.T.P.fns[L.law]? = some d) (hx : L.ps[L.law]? = some [x])
    (hm : ∀ ns : List Int, ns.length ≤ 63 → ∃ h', callN L.T.P kk L.law [.rol (ns.map .int)] [] = .ok (.bl true) h') : FnOk P w K mg base (CX P w) (2 * kk) (L.fa K L.law) (L.fd K L.law) [x] (spLaw K) := by
  have A := fns_at (G_ok (P := P) (w := w) (base := base) c X Gn dt) (fun i d e => (G_defs c dt i d e).1) kk L.law d hd
  have ep : (L.G P w K mg base).ps L.law = [x] := by
    show (L.ps[L.law]?).getD [] = [x]
    rw [hx]
    rfl
  have A : FnOk P w K mg base (CX P w) (2 * kk) (L.fa K L.law) (L.fd K L.law) ((L.G P w K mg base).ps L.law) (spI (L.G P w K mg base) kk L.law) := A
  rw [ep] at A
  refine A.imp fun vs H Q E ⟨a, ns, ev, hl, o, hS, q⟩ => ?_
  subst ev
  refine ⟨by rw [ep]; rfl, [], [], [.rol (ns.map .int)], ⟨rfl, List.nodup_nil, fun n o a e _ => by simp at e⟩, .cons (.rol (only_sqP o hS) (ints_vr ns)) .nil, ?_⟩
  obtain ⟨h', e⟩ := hm ns hl
  show PostV _ _ _ _ (callN L.T.P kk L.law [.rol (ns.map .int)] []) Q
  rw [e]
  intro j' H' b _ _ r
  cases r.bl_inv
  exact q H'
end
/-- the law's walk, over CX of the world -/
theorem walk_M {l : PySem.W.OpenLaw} {q : Program} {loose : List Str} {XP : (Str → Option Value) → Heap → Prop} {L : LawD} {kk : Nat} {d : FnD} {dr : DefRec} {x : Str} {N : Nat}
    (hn : l.most = some 63) (hdf : dr.params.defaults = []) (hr : Room (2 * kk) callerA) (dt : ∀ (i : Nat) (d : FnD), L.T.P.fns[i]? = some d → DefT L i d) (hd : L.T.P.fns[L.law]? = some d) (hd0 : d.dfl = []) (hx : L.ps[L.law]? = some [x]) (hnm : (L.T.fnm.lookup dr.name) = some L.law)
    (hm : ∀ ns : List Int, ns.length ≤ 63 → ∃ h', callN L.T.P kk L.law [.rol (ns.map .int)] [] = .ok (.bl true) h') :
    PySem.W.WalkO q loose XP (hookM N L).says l.row.toRowW dr [] (fun f vs => PySem.call f vs) := by
  refine Att.attach_call hn hdf fun w s₀ s₁ mg mb fa o pm cd doc a vs ns G Y ho hd' hcd hmg hobj hints hlen hg => ?_
  obtain ⟨K, KX, c⟩ := Y
  have gn : mg dr.name = some (.ref (L.fa K L.law)) := (G_ok (P := l.prog) (w := w) (base := s₁.heap) c KX G.T.g dt).fnm _ _ hnm
  have ef : fa = L.fa K L.law := by
    rw [hmg] at gn
    cases gn
    rfl
  subst ef
  obtain ⟨dd, ps, N', h1, h2, h3, h4, h5, h6, h7, h8, h9, h10, h11⟩ := (dt L.law d hd).ex
  rw [hx] at h2
  cases h2
  have F := LawD.fd_ok c h1
  have e0 : dd.dvs K = [] := by
    unfold He.DefD.dvs
    have := dvsB_len h6
    rw [hd0] at this
    rw [List.length_eq_zero_iff.mp this.symm]
    rfl
  have ek : dd.kws K = [] := by
    unfold He.DefD.kws
    rw [h5]
    rfl
  rw [e0, ek] at F
  have hb := FunD.bindsA (ps := [x]) F (h11.1 (by rw [hd0]; rfl))
  refine law_call (sp := spLaw K) (CX := CX l.prog w) KX G.T.g G.T.b G.T.builtins G.T.nolimit hg hobj hints (Nat.le_trans hlen (by decide)) hr (fun base hb1 hb2 => law_fn c hb1 hb2 dt hd hx hm) (fun s u => hb s [u] rfl) (fun H hO hS => ⟨a, ns, rfl, hlen, hO, hS, fun _ => rfl⟩) fun H e s' ⟨_, _, _, _, _, _, _, _, _, _, _, _, z⟩ => z.elim
end Mi
/-! MP: rules for the mini meaning. -/
namespace Mi
open PySem

theorem call_eq {P : Prog} {k f : Nat} {d : FnD} {vs : List MV} {h : MH} (e : P.fns[f]? = some d) (hl : (d.fill vs).length = d.np) : callN P (k + 1) f vs h = (xB (cfg P k) d.body (d.start (d.fill vs)) h).fin := by
  simp only [callN, e, hl, if_true]
theorem Wh.det {c : MEnv → MH → R Bool} {b : MEnv → MH → Out} {σ : MEnv} {h : MH} {o o' : Out} (x : Wh c b σ h o) (y : Wh c b σ h o') : o = o' := by
  induction x generalizing o' with
  | no e => cases y <;> simp_all
  | cexc e => cases y <;> simp_all
  | nx e1 e2 _ ih =>
    cases y with
    | no e => simp_all
    | cexc e => simp_all
    | nx f1 f2 f3 => rw [e1] at f1; cases f1; rw [e2] at f2; cases f2; exact ih f3
    | ct f1 f2 f3 => rw [e1] at f1; cases f1; rw [e2] at f2; cases f2
    | bk f1 f2 => rw [e1] at f1; cases f1; rw [e2] at f2; cases f2
    | rt f1 f2 => rw [e1] at f1; cases f1; rw [e2] at f2; cases f2
    | ex f1 f2 => rw [e1] at f1; cases f1; rw [e2] at f2; cases f2
  | ct e1 e2 _ ih =>
    cases y with
    | no e => simp_all
    | cexc e => simp_all
    | nx f1 f2 f3 => rw [e1] at f1; cases f1; rw [e2] at f2; cases f2
    | ct f1 f2 f3 => rw [e1] at f1; cases f1; rw [e2] at f2; cases f2; exact ih f3
    | bk f1 f2 => rw [e1] at f1; cases f1; rw [e2] at f2; cases f2
    | rt f1 f2 => rw [e1] at f1; cases f1; rw [e2] at f2; cases f2
    | ex f1 f2 => rw [e1] at f1; cases f1; rw [e2] at f2; cases f2
  | bk e1 e2 =>
    cases y with
    | no e => simp_all
    | cexc e => simp_all
    | nx f1 f2 f3 => rw [e1] at f1; cases f1; rw [e2] at f2; cases f2
    | ct f1 f2 f3 => rw [e1] at f1; cases f1; rw [e2] at f2; cases f2
    | bk f1 f2 => rw [e1] at f1; cases f1; rw [e2] at f2; cases f2; rfl
    | rt f1 f2 => rw [e1] at f1; cases f1; rw [e2] at f2; cases f2
    | ex f1 f2 => rw [e1] at f1; cases f1; rw [e2] at f2; cases f2
  | rt e1 e2 =>
    cases y with
    | no e => simp_all
    | cexc e => simp_all
    | nx f1 f2 f3 => rw [e1] at f1; cases f1; rw [e2] at f2; cases f2
    | ct f1 f2 f3 => rw [e1] at f1; cases f1; rw [e2] at f2; cases f2
    | bk f1 f2 => rw [e1] at f1; cases f1; rw [e2] at f2; cases f2
    | rt f1 f2 => rw [e1] at f1; cases f1; rw [e2] at f2; cases f2; rfl
    | ex f1 f2 => rw [e1] at f1; cases f1; rw [e2] at f2; cases f2
  | ex e1 e2 =>
    cases y with
    | no e => simp_all
    | cexc e => simp_all
    | nx f1 f2 f3 => rw [e1] at f1; cases f1; rw [e2] at f2; cases f2
    | ct f1 f2 f3 => rw [e1] at f1; cases f1; rw [e2] at f2; cases f2
    | bk f1 f2 => rw [e1] at f1; cases f1; rw [e2] at f2; cases f2
    | rt f1 f2 => rw [e1] at f1; cases f1; rw [e2] at f2; cases f2
    | ex f1 f2 => rw [e1] at f1; cases f1; rw [e2] at f2; cases f2; rfl
theorem whF_of {c : MEnv → MH → R Bool} {b : MEnv → MH → Out} {σ : MEnv} {h : MH} {o : Out} (x : Wh c b σ h o) : whF c b σ h = o := by
  unfold whF
  have q : ∃ o, Wh c b σ h o := ⟨o, x⟩
  rw [dif_pos q]
  exact Wh.det q.choose_spec x
/-- one turn -/
theorem whF_no {c : MEnv → MH → R Bool} {b : MEnv → MH → Out} {σ : MEnv} {h h' : MH} (e : c σ h = .ok false h') : whF c b σ h = .nx σ h' := whF_of (.no e)
/-- while, by an invariant and a measure: the end -/
theorem whF_inv {c : MEnv → MH → R Bool} {b : MEnv → MH → Out} (I : Nat → MEnv → MH → Prop) (Z : Out → Prop)
    (step : ∀ m σ h, I m σ h → (∃ h', c σ h = .ok false h' ∧ Z (.nx σ h')) ∨ (∃ h1, c σ h = .ok true h1 ∧
      ((∃ σ2 h2 m', m' < m ∧ (b σ h1 = .nx σ2 h2 ∨ b σ h1 = .ct σ2 h2) ∧ I m' σ2 h2) ∨ (∃ σ2 h2, b σ h1 = .bk σ2 h2 ∧ Z (.nx σ2 h2)) ∨ (∃ v h2, b σ h1 = .rt v h2 ∧ Z (.rt v h2))))) :
    ∀ (m : Nat) (σ : MEnv) (h : MH), I m σ h → Z (whF c b σ h) := by
  have main : ∀ (m : Nat) (σ : MEnv) (h : MH), I m σ h → ∃ o, Wh c b σ h o ∧ Z o := by
    intro m
    induction m using Nat.strongRecOn with
    | _ m ih =>
      intro σ h i
      rcases step m σ h i with ⟨h', e, z⟩ | ⟨h1, e, ⟨σ2, h2, m', hm, e2, i2⟩ | ⟨σ2, h2, e2, z⟩ | ⟨v, h2, e2, z⟩⟩
      · exact ⟨_, .no e, z⟩
      · obtain ⟨o, w, z⟩ := ih m' hm σ2 h2 i2
        rcases e2 with e2 | e2
        · exact ⟨o, .nx e e2 w, z⟩
        · exact ⟨o, .ct e e2 w, z⟩
      · exact ⟨_, .bk e e2, z⟩
      · exact ⟨_, .rt e e2, z⟩
  intro m σ h i
  obtain ⟨o, w, z⟩ := main m σ h i
  rw [whF_of w]
  exact z
/-- for, by an invariant over the turns: the end -/
theorem loopF_inv {g : Gd} {step : MV → MEnv → MH → Out} (I : List MV → MEnv → MH → Prop) (Z : Out → Prop) (hg : ∀ vs σ h, I vs σ h → g.ok h = true) (hn : ∀ σ h, I [] σ h → Z (.nx σ h))
    (hs : ∀ v vs σ h, I (v :: vs) σ h → (∃ σ' h', (step v σ h = .nx σ' h' ∨ step v σ h = .ct σ' h') ∧ I vs σ' h') ∨ (∃ σ' h', step v σ h = .bk σ' h' ∧ Z (.nx σ' h')) ∨ (∃ w h', step v σ h = .rt w h' ∧ Z (.rt w h'))) :
    ∀ (vs : List MV) (σ : MEnv) (h : MH), I vs σ h → Z (loopF g step vs σ h)
  | [], σ, h, i => by
    simp only [loopF, hg _ _ _ i, if_true]
    exact hn σ h i
  | v :: vs, σ, h, i => by
    simp only [loopF, hg _ _ _ i, if_true]
    rcases hs v vs σ h i with ⟨σ', h', e, i2⟩ | ⟨σ', h', e, z⟩ | ⟨w, h', e, z⟩
    · rcases e with e | e <;> (rw [e]; exact loopF_inv I Z hg hn hs vs σ' h' i2)
    · rw [e]; exact z
    · rw [e]; exact z
/-- a comprehension, by what each turn gives: heap h0 ++ t ++ .. grows behind the list -/
theorem lcF_inv {g : Gd} {D : Nat} {step : MV → MH → R (Option MV)} (I : List MV → List MV → MH → Prop) (Z : MH → Prop) (hg : ∀ vs acc h, I vs acc h → g.ok h = true ∧ h[D]? = some (.lst acc)) (hn : ∀ acc h, I [] acc h → Z h)
    (hs : ∀ v vs acc h, I (v :: vs) acc h → (∃ y h', step v h = .ok (some y) h' ∧ h'[D]? = some (.lst acc) ∧ acc.length < sizeLine ∧ I vs (acc ++ [y]) (h'.set D (.lst (acc ++ [y])))) ∨ (∃ h', step v h = .ok none h' ∧ I vs acc h')) :
    ∀ (vs acc : List MV) (h : MH), I vs acc h → ∃ h', lcF g D step vs h = .ok (.ref D) h' ∧ Z h'
  | [], acc, h, i => by
    simp only [lcF, (hg _ _ _ i).1, if_true]
    exact ⟨h, rfl, hn acc h i⟩
  | v :: vs, acc, h, i => by
    simp only [lcF, (hg _ _ _ i).1, if_true]
    rcases hs v vs acc h i with ⟨y, h', e, e2, e3, i2⟩ | ⟨h', e, i2⟩
    · simp only [e, e2, e3, if_true]
      exact lcF_inv I Z hg hn hs vs _ _ i2
    · simp only [e]
      exact lcF_inv I Z hg hn hs vs _ _ i2
theorem atI_cons0 {α : Type} (x : α) (xs : List α) : L2.atI (x :: xs) 0 = some x := by simp [L2.atI, L2.ixN]
theorem atI_nat {α : Type} {xs : List α} {i : Nat} {x : α} (h : xs[i]? = some x) : L2.atI xs (i : Int) = some x := by
  have hl : i < xs.length := (List.getElem?_eq_some_iff.mp h).1
  unfold L2.atI L2.ixN
  rw [if_pos (by omega), if_pos (by omega)]
  simpa using h
theorem mulOk_of {i j : Int} (hi : i.natAbs < 2 ^ 400000) (hj : j.natAbs < 2 ^ 400000) : MulOk i j := by
  unfold MulOk
  have a : i.natAbs.log2 < 400000 := by
    by_cases h : i.natAbs = 0
    · rw [h]; decide
    · exact (Nat.log2_lt h).mpr hi
  have b : j.natAbs.log2 < 400000 := by
    by_cases h : j.natAbs = 0
    · rw [h]; decide
    · exact (Nat.log2_lt h).mpr hj
  omega
theorem divOk_of {j : Int} (h0 : j ≠ 0) (hj : j.natAbs < 2 ^ 8000) : DivOk j := by
  unfold DivOk
  refine ⟨h0, ?_⟩
  have : j.natAbs.log2 < 8000 := (Nat.log2_lt (by omega)).mpr hj
  omega

/-! ### the meaning as rewriting -/
def Out.seq (o : Out) (k : MEnv → MH → Out) : Out := match o with
  | .nx σ h => k σ h
  | o => o
theorem bind_congr {α β : Type} {r r' : R α} {f : α → MH → R β} (e : r = r') : r.bind f = r'.bind f := by rw [e]
theorem out_congr {α : Type} {r r' : R α} {σ : MEnv} {f : α → MH → Out} (e : r = r') : r.out σ f = r'.out σ f := by rw [e]
theorem seq_congr {o o' : Out} {k : MEnv → MH → Out} (e : o = o') : o.seq k = o'.seq k := by rw [e]
theorem loopF_congr {g : Gd} {step : MV → MEnv → MH → Out} {vs vs' : List MV} {σ σ' : MEnv} {h h' : MH} (e1 : vs = vs') (e2 : σ = σ') (e3 : h = h') : loopF g step vs σ h = loopF g step vs' σ' h' := by rw [e1, e2, e3]
theorem whF_congr {c : MEnv → MH → R Bool} {b : MEnv → MH → Out} {σ σ' : MEnv} {h h' : MH} (e2 : σ = σ') (e3 : h = h') : whF c b σ h = whF c b σ' h' := by rw [e2, e3]
section
variable {c : Cfg} {σ : MEnv} {h : MH} {α β : Type}
@[simp] theorem bind_ok {a : α} {f : α → MH → R β} : (R.ok a h).bind f = f a h := Eq.trans rfl rfl
@[simp] theorem bind_exc {x : MX} {f : α → MH → R β} : (R.exc x h).bind f = .exc x h := Eq.trans rfl rfl
@[simp] theorem bind_bad {f : α → MH → R β} : (R.bad).bind f = .bad := Eq.trans rfl rfl
@[simp] theorem out_ok {a : α} {f : α → MH → Out} : (R.ok a h).out σ f = f a h := Eq.trans rfl rfl
@[simp] theorem out_exc {x : MX} {f : α → MH → Out} : (R.exc x h).out σ f = .ex x σ h := Eq.trans rfl rfl
@[simp] theorem seq_nx {k : MEnv → MH → Out} : (Out.nx σ h).seq k = k σ h := Eq.trans rfl rfl
@[simp] theorem seq_rt {v : MV} {k : MEnv → MH → Out} : (Out.rt v h).seq k = .rt v h := Eq.trans rfl rfl
@[simp] theorem seq_bk {k : MEnv → MH → Out} : (Out.bk σ h).seq k = .bk σ h := Eq.trans rfl rfl
@[simp] theorem seq_ct {k : MEnv → MH → Out} : (Out.ct σ h).seq k = .ct σ h := Eq.trans rfl rfl
@[simp] theorem seq_ex {x : MX} {k : MEnv → MH → Out} : (Out.ex x σ h).seq k = .ex x σ h := Eq.trans rfl rfl
@[simp] theorem fin_nx : (Out.nx σ h).fin = .ok .non h := Eq.trans rfl rfl
@[simp] theorem fin_rt {v : MV} : (Out.rt v h).fin = .ok v h := Eq.trans rfl rfl
@[simp] theorem fin_ex {x : MX} : (Out.ex x σ h).fin = .exc x h := Eq.trans rfl rfl
@[simp] theorem xB_nil : xB c .nil σ h = .nx σ h := by simp only [xB]
@[simp] theorem xB_cons {s : MS} {r : MSs} : xB c (.cons s r) σ h = (xS c s σ h).seq (xB c r) := by
  simp only [xB]
  cases xS c s σ h <;> rfl
@[simp] theorem xE_var {i : Nat} : xE c (.var i) σ h = (match σ[i]? with
    | some (some (.exn _ _)) => .bad
    | some (some v) => .ok v h
    | _ => .bad) := by simp only [xE] <;> rfl
@[simp] theorem xE_int {i : Int} : xE c (.int i) σ h = .ok (.int i) h := by simp only [xE]
@[simp] theorem xE_bl {i : Bool} : xE c (.bl i) σ h = .ok (.bl i) h := by simp only [xE]
@[simp] theorem xE_non : xE c .non σ h = .ok .non h := by simp only [xE]
@[simp] theorem xE_str {i : Str} : xE c (.str i) σ h = .ok (.str i) h := by simp only [xE]
@[simp] theorem xE_glob {i : Nat} : xE c (.glob i) σ h = (match c.P.cons[i]? with
    | some p => .ok p.2 h
    | none => .bad) := by simp only [xE] <;> rfl
@[simp] theorem xE_tup {es : MEs} : xE c (.tup es) σ h = (xEs c es σ h).bind fun vs h => .ok (.tup vs) h := by simp only [xE]
@[simp] theorem xE_lst {es : MEs} : xE c (.lst es) σ h = (xEs c es σ h).bind fun vs h => .ok (.ref (List.length h)) (h ++ [.lst vs]) := by simp only [xE]
@[simp] theorem xE_dic0 : xE c .dic0 σ h = .ok (.ref (List.length h)) (h ++ [.dic false []]) := by simp only [xE]
@[simp] theorem xE_bin {op : Operator} {a b : ME} : xE c (.bin op a b) σ h = (xE c a σ h).bind fun v h => (xE c b σ h).bind fun w h => binop op v w h := by simp only [xE]
@[simp] theorem xE_neg {a : ME} : xE c (.neg a) σ h = (xE c a σ h).bind fun v h => (match v with
    | .int i => .ok (.int (-i)) h
    | _ => .bad) := by simp only [xE] <;> rfl
@[simp] theorem xE_cmp {op : CmpOp} {a b : ME} : xE c (.cmp op a b) σ h = (xE c a σ h).bind fun v h => (xE c b σ h).bind fun w h => cmpop op v w h := by simp only [xE]
@[simp] theorem xE_cmp2 {op op' : CmpOp} {a b d : ME} : xE c (.cmp2 op op' a b d) σ h = (xE c a σ h).bind fun v h => (xE c b σ h).bind fun w h => (cmpop op v w h).bind fun r h => (match r with
    | .bl true => (xE c d σ h).bind fun u h => cmpop op' w u h
    | .bl false => .ok (.bl false) h
    | _ => .bad) := by simp only [xE] <;> rfl
def ifV (v : MV) (a b : R MV) : R MV := match v with
  | .bl true => a
  | .bl false => b
  | _ => .bad
theorem ifV_congr {v v' : MV} {a b : R MV} (e : v = v') : ifV v a b = ifV v' a b := by rw [e]
@[simp] theorem ifV_t {a b : R MV} : ifV (.bl true) a b = a := Eq.trans rfl rfl
@[simp] theorem ifV_f {a b : R MV} : ifV (.bl false) a b = b := Eq.trans rfl rfl
@[simp] theorem ifV_d {p : Prop} [Decidable p] {a b : R MV} : ifV (.bl (decide p)) a b = if p then a else b := by
  by_cases h : p <;> simp [h, ifV]
@[simp] theorem xE_and {a b : ME} : xE c (.and a b) σ h = (xE c a σ h).bind fun v h => ifV v (xE c b σ h) (.ok (.bl false) h) := by simp only [xE] <;> rfl
@[simp] theorem xE_or {a b : ME} : xE c (.or a b) σ h = (xE c a σ h).bind fun v h => ifV v (.ok (.bl true) h) (xE c b σ h) := by simp only [xE] <;> rfl
@[simp] theorem xE_not {a : ME} : xE c (.not a) σ h = (xE c a σ h).bind fun v h => (match truth v h with
    | some b => .ok (.bl (!b)) h
    | none => .bad) := by simp only [xE] <;> rfl
@[simp] theorem xE_ite {t a b : ME} : xE c (.ite t a b) σ h = (xE c t σ h).bind fun v h => (match truth v h with
    | some true => xE c a σ h
    | some false => xE c b σ h
    | none => .bad) := by simp only [xE] <;> rfl
@[simp] theorem xE_idx {a i : ME} : xE c (.idx a i) σ h = (xE c a σ h).bind fun v h => (xE c i σ h).bind fun w h => getIx v w h := by simp only [xE]
@[simp] theorem xE_sli {a : ME} {lo hi : MO2} : xE c (.sli a lo hi) σ h = (xE c a σ h).bind fun v h => (xO c lo σ h).bind fun l h => (xO c hi σ h).bind fun u h => slice v l u h := by simp only [xE]
@[simp] theorem xE_fld {a : ME} {x : Str} : xE c (.fld a x) σ h = (xE c a σ h).bind fun v h => getF v x h := by simp only [xE]
@[simp] theorem xE_call {f : Nat} {es : MEs} : xE c (.call f es) σ h = (xEs c es σ h).bind fun vs h => c.call f vs h := by simp only [xE]
@[simp] theorem xE_bf {b : BF} {es : MEs} : xE c (.bf b es) σ h = (xEs c es σ h).bind fun vs h => bfn b vs h := by simp only [xE]
@[simp] theorem xE_isi {a : ME} {ts : List Ty} {s : Bool} : xE c (.isi a ts s) σ h = (xE c a σ h).bind fun v h => (match isTys c.P h v ts with
    | some b => .ok (.bl b) h
    | none => .bad) := by simp only [xE] <;> rfl
@[simp] theorem xEs_nil : xEs c .nil σ h = .ok [] h := by simp only [xEs]
@[simp] theorem xEs_cons {e : ME} {r : MEs} : xEs c (.cons e r) σ h = (xE c e σ h).bind fun v h => (xEs c r σ h).bind fun vs h => .ok (v :: vs) h := by simp only [xEs]
@[simp] theorem xO_none : xO c .none σ h = .ok none h := by simp only [xO]
@[simp] theorem xO_some {e : ME} : xO c (.some e) σ h = (xE c e σ h).bind fun v h => (match v with
    | .int i => .ok (some i) h
    | _ => .bad) := by simp only [xO] <;> rfl
@[simp] theorem xS_expr {e : ME} : xS c (.expr e) σ h = (xE c e σ h).out σ fun _ h => .nx σ h := by simp only [xS]
@[simp] theorem xS_asgN {i : Nat} {e : ME} : xS c (.asg (.name i) e) σ h = (xE c e σ h).out σ fun v h => .nx (σ.set i (some v)) h := by simp only [xS, setT]
@[simp] theorem xS_asgT {is : List Nat} {e : ME} : xS c (.asg (.tup is) e) σ h = (xE c e σ h).out σ fun v h => (match setT (.tup is) v σ with
    | some σ' => .nx σ' h
    | none => .bad) := by simp only [xS] <;> rfl
@[simp] theorem xS_setF {o e : ME} {f : Str} : xS c (.setF o f e) σ h = (xE c e σ h).out σ fun w h => (xE c o σ h).out σ fun v h => (match setFd v f w h with
    | some h' => .nx σ h'
    | none => .bad) := by simp only [xS] <;> rfl
@[simp] theorem xS_setI {o i e : ME} : xS c (.setI o i e) σ h = (xE c e σ h).out σ fun w h => (xE c o σ h).out σ fun v h => (xE c i σ h).out σ fun k h => (match setIx v k w h with
    | some h' => .nx σ h'
    | none => .bad) := by simp only [xS] <;> rfl
@[simp] theorem xS_ret {e : ME} : xS c (.ret e) σ h = (xE c e σ h).out σ fun v h => .rt v h := by simp only [xS]
@[simp] theorem xS_retN : xS c .retN σ h = .rt .non h := by simp only [xS]
@[simp] theorem xS_pass : xS c .pass σ h = .nx σ h := by simp only [xS]
@[simp] theorem xS_brk : xS c .brk σ h = .bk σ h := by simp only [xS]
@[simp] theorem xS_cont : xS c .cont σ h = .ct σ h := by simp only [xS]
def ifO (k : Bool) (a b : Out) : Out := if k = true then a else b
theorem ifO_congr {k k' : Bool} {a b : Out} (e : k = k') : ifO k a b = ifO k' a b := by rw [e]
@[simp] theorem ifO_t {a b : Out} : ifO true a b = a := Eq.trans rfl rfl
@[simp] theorem ifO_f {a b : Out} : ifO false a b = b := Eq.trans rfl rfl
@[simp] theorem xS_ite {t : ME} {a b : MSs} : xS c (.ite t a b) σ h = (xT c t σ h).out σ fun k h => ifO k (xB c a σ h) (xB c b σ h) := by simp only [xS] <;> rfl
@[simp] theorem xS_wh {t : ME} {b : MSs} : xS c (.wh t b) σ h = whF (xT c t) (xB c b) σ h := by simp only [xS]
theorem xT_eq {t : ME} : xT c t σ h = (xE c t σ h).bind fun v h => (match truth v h with
  | some b => .ok b h
  | none => .bad) := rfl
@[simp] theorem truth_bl {b : Bool} : truth (.bl b) h = some b := Eq.trans rfl rfl
@[simp] theorem eqv_int {i j : Int} : eqv h (.int i) (.int j) = some (decide (i = j)) := by
  simp [eqv, dictOf, toD, PyData.eqv]
  rw [Bool.eq_iff_iff]
  simp
end

/-! ### operations at known objects -/
section
variable {h : MH} {n : Nat} {vs : List MV}
theorem len_lst (e : h[n]? = some (.lst vs)) : bfn .len [.ref n] h = .ok (.int vs.length) h := by simp [bfn, dictOf, seqOf, e]
theorem len_rol : bfn .len [.rol vs] h = .ok (.int vs.length) h := by simp [bfn, dictOf, seqOf]
theorem list_lst (e : h[n]? = some (.lst vs)) : bfn .list [.ref n] h = .ok (.ref h.length) (h ++ [.lst vs]) := by simp [bfn, seqOf, e]
theorem lrng_of {ws : List MV} (e : rngOf ws = some vs) (hz : vs.length ≤ sizeLine) : bfn .listRange ws h = .ok (.ref h.length) (h ++ [.lst vs]) := by simp only [bfn, e, hz, if_true]
theorem getIx_lst (e : h[n]? = some (.lst vs)) {i : Int} {w : MV} (e2 : L2.atI vs i = some w) : getIx (.ref n) (.int i) h = .ok w h := by simp [getIx, dictOf, seqOf, e, e2]
theorem getIx_tup {i : Int} {w : MV} (e2 : L2.atI vs i = some w) : getIx (.tup vs) (.int i) h = .ok w h := by simp [getIx, dictOf, seqOf, e2]
theorem getIx_rol {i : Int} {w : MV} (e2 : L2.atI vs i = some w) : getIx (.rol vs) (.int i) h = .ok w h := by simp [getIx, dictOf, seqOf, e2]
theorem getF_ins {k : Nat} {fs : List (Str × MV)} {x : Str} {w : MV} (e : h[n]? = some (.ins k fs)) (e2 : fs.lookup x = some w) : getF (.ref n) x h = .ok w h := by simp [getF, e, e2]
theorem append_lst (e : h[n]? = some (.lst vs)) {y : MV} (hz : vs.length < sizeLine) : bmeth .append (.ref n) [y] h = .ok .non (h.set n (.lst (vs ++ [y]))) := by simp [bmeth, e, hz]
theorem truth_lst (e : h[n]? = some (.lst vs)) : truth (.ref n) h = some (!vs.isEmpty) := by simp [truth, e]
@[simp] theorem add_int {i j : Int} : binop .Add (.int i) (.int j) h = .ok (.int (i + j)) h := Eq.trans rfl rfl
@[simp] theorem sub_int {i j : Int} : binop .Sub (.int i) (.int j) h = .ok (.int (i - j)) h := Eq.trans rfl rfl
@[simp] theorem lt_int {i j : Int} : cmpop .Lt (.int i) (.int j) h = .ok (.bl (decide (i < j))) h := Eq.trans rfl rfl
@[simp] theorem le_int {i j : Int} : cmpop .LtE (.int i) (.int j) h = .ok (.bl (decide (i ≤ j))) h := Eq.trans rfl rfl
@[simp] theorem gt_int {i j : Int} : cmpop .Gt (.int i) (.int j) h = .ok (.bl (decide (j < i))) h := Eq.trans rfl rfl
@[simp] theorem ge_int {i j : Int} : cmpop .GtE (.int i) (.int j) h = .ok (.bl (decide (j ≤ i))) h := Eq.trans rfl rfl
@[simp] theorem eq_int {i j : Int} : cmpop .Eq (.int i) (.int j) h = .ok (.bl (decide (i = j))) h := by simp [cmpop]
@[simp] theorem ne_int {i j : Int} : cmpop .NotEq (.int i) (.int j) h = .ok (.bl (!decide (i = j))) h := by simp [cmpop]
theorem kind_lst (e : h[n]? = some (.lst vs)) : kindB h (.ref n) = some 0 := by simp [kindB, e]
theorem kind_dic {lk : Bool} {kvs : List (MV × MV)} (e : h[n]? = some (.dic lk kvs)) : kindB h (.ref n) = some 1 := by simp [kindB, e]
end
theorem xE_bm {c : Cfg} {b : BM} {a : ME} {es : MEs} {σ : MEnv} {h h1 h2 : MH} {v : MV} {vs : List MV} {k : Nat} (e : xE c a σ h = .ok v h1) (e2 : kindB h1 v = some k) (e3 : bmFit b k = true) (e4 : xEs c es σ h1 = .ok vs h2) (e5 : kindB h2 v = some k) :
    xE c (.bm b a es) σ h = bmeth b v vs h2 := by
  simp [xE, e, e2, e3, e4, e5]
theorem xE_meth {c : Cfg} {a : ME} {m : Str} {es : MEs} {σ : MEnv} {h h1 h2 : MH} {nn kk f : Nat} {fs : List (Str × MV)} {vs : List MV} (e : xE c a σ h = .ok (.ref nn) h1) (e2 : h1[nn]? = some (.ins kk fs)) (e3 : fs.lookup m = none) (e4 : c.P.meth kk m = some f) (e5 : xEs c es σ h1 = .ok vs h2) :
    xE c (.meth a m es) σ h = c.call f (.ref nn :: vs) h2 := by
  simp only [xE, e, bind_ok, e2, e3, e4, e5]
theorem xS_loop {c : Cfg} {t : MT} {it : MI} {b : MSs} {σ : MEnv} {h h1 : MH} {vs : List MV} {g : Gd} (e : xI c it σ h = .ok (vs, g) h1) (hg : ∀ n, g ≠ .lock n) : xS c (.loop t it b) σ h = loopF g (fun v σ h => (match setT t v σ with
      | some σ' => xB c b σ' h
      | none => .bad)) vs σ h1 := by
  simp only [xS, e, out_ok]
  cases g with
  | lock n => exact absurd rfl (hg n)
  | free => cases loopF _ _ _ _ _ <;> rfl
  | obj n u => cases loopF _ _ _ _ _ <;> rfl
theorem xI_seq {c : Cfg} {e : ME} {σ : MEnv} {h h1 : MH} {n : Nat} {vs : List MV} (e1 : xE c e σ h = .ok (.ref n) h1) (e2 : h1[n]? = some (.lst vs)) : xI c (.seq e) σ h = .ok (vs, .obj n (.lst vs)) h1 := by
  simp only [xI, e1, bind_ok, e2]
theorem xI_rng {c : Cfg} {es : MEs} {σ : MEnv} {h h1 : MH} {ws vs : List MV} (e1 : xEs c es σ h = .ok ws h1) (e2 : rngOf ws = some vs) : xI c (.rng es) σ h = .ok (vs, .free) h1 := by
  simp only [xI, e1, bind_ok, e2]
end Mi
/-! MP2: lists of ints, comprehensions. -/
namespace Mi
open PySem
/-- the heap has grown -/
structure Ex (h h' : MH) : Prop where
  le : h.length ≤ h'.length
  at_ : ∀ a, a < h.length → h'[a]? = h[a]?
theorem Ex.refl {h : MH} : Ex h h := ⟨Nat.le_refl _, fun _ _ => rfl⟩
theorem Ex.trans {h h1 h2 : MH} (a : Ex h h1) (b : Ex h1 h2) : Ex h h2 := ⟨Nat.le_trans a.le b.le, fun x hx => by have := a.le; rw [b.at_ x (by omega), a.at_ x hx]⟩
theorem Ex.push {h h' : MH} {u : MO} (k : Ex h h') : Ex h (h' ++ [u]) := by
  refine ⟨by have := k.le; simp; omega, fun a ha => ?_⟩
  have := k.le
  rw [List.getElem?_append_left (by omega)]
  exact k.at_ a ha
theorem Ex.set {b : Nat} {h h' : MH} {u : MO} (k : Ex h h') (hb : h.length ≤ b) : Ex h (h'.set b u) := by
  refine ⟨by have := k.le; simpa using this, fun a ha => ?_⟩
  rw [List.getElem?_set_ne (by omega)]
  exact k.at_ a ha
theorem Ex.get {a : Nat} {h h' : MH} {o : MO} (k : Ex h h') (e : h[a]? = some o) : h'[a]? = some o := by rw [k.at_ a (List.getElem?_eq_some_iff.mp e).1]; exact e
theorem getP_new {h : MH} {u : MO} : (h ++ [u])[h.length]? = some u := by simp
theorem ltP {h : MH} {a : Nat} {o : MO} (e : h[a]? = some o) : a < h.length := (List.getElem?_eq_some_iff.mp e).1
/-- a list of ints -/
def iL (xs : List Int) : List MV := xs.map MV.int
@[simp] theorem iL_length (xs : List Int) : (iL xs).length = xs.length := by simp [iL]
theorem iL_get (xs : List Int) (i : Nat) : (iL xs)[i]? = xs[i]?.map MV.int := by simp [iL]
theorem iL_snoc (xs : List Int) (y : Int) : iL xs ++ [.int y] = iL (xs ++ [y]) := by simp [iL]
theorem iL_app (xs ys : List Int) : iL xs ++ iL ys = iL (xs ++ ys) := by simp [iL]
@[simp] theorem iL_nil : iL [] = [] := rfl
@[simp] theorem iL_cons (x : Int) (xs : List Int) : iL (x :: xs) = .int x :: iL xs := rfl
@[simp] theorem iL_empty (xs : List Int) : (iL xs).isEmpty = xs.isEmpty := by cases xs <;> rfl
theorem intsOf_iL : ∀ xs : List Int, intsOf (iL xs) = some xs
  | [] => rfl
  | x :: xs => by
    have := intsOf_iL xs
    unfold intsOf at this ⊢
    show List.mapM _ (MV.int x :: iL xs) = _
    rw [List.mapM_cons, this]
    rfl
theorem remove_iL {h : MH} {n : Nat} {xs : List Int} {y : Int} (e : h[n]? = some (.lst (iL xs))) (hy : y ∈ xs) : bmeth .remove (.ref n) [.int y] h = .ok .non (h.set n (.lst (iL (xs.eraseIdx (xs.idxOf y))))) := by
  simp [bmeth, e, intsOf_iL, hy]
  rfl
theorem sorted_iL {h : MH} {n : Nat} {xs : List Int} (e : h[n]? = some (.lst (iL xs))) : bfn .sorted [.ref n] h = .ok (.ref h.length) (h ++ [.lst (iL (sortI xs))]) := by
  simp [bfn, e, intsOf_iL]
  rfl
theorem pop0_iL {h : MH} {n : Nat} {x : Int} {xs : List Int} (e : h[n]? = some (.lst (iL (x :: xs)))) : bmeth .popAt (.ref n) [.int 0] h = .ok (.int x) (h.set n (.lst (iL xs))) := by
  simp [bmeth, e, L2.ixN]
/-! ### == and in, of such lists -/
theorem toDs_iL (h : MH) (k : Nat) : ∀ xs : List Int, (iL xs).mapM (toD h (k + 1)) = some (xs.map PyData.int)
  | [] => rfl
  | x :: xs => by
    show List.mapM _ (MV.int x :: iL xs) = _
    rw [List.mapM_cons, toDs_iL h k xs]
    rfl
theorem toD_iL {h : MH} {n k : Nat} {xs : List Int} (e : h[n]? = some (.lst (iL xs))) : toD h (k + 2) (.ref n) = some (.list (xs.map PyData.int)) := by
  unfold toD
  simp only [e, toDs_iL]
  rfl
theorem eqvAll_ints : ∀ xs ys : List Int, PyData.eqvAll (xs.map PyData.int) (ys.map PyData.int) = decide (xs = ys)
  | [], [] => by simp [PyData.eqvAll]
  | [], _ :: _ => by simp [PyData.eqvAll]
  | _ :: _, [] => by simp [PyData.eqvAll]
  | x :: xs, y :: ys => by
    simp only [List.map_cons, PyData.eqvAll, PyData.eqv, eqvAll_ints xs ys, List.cons.injEq]
    by_cases h1 : x = y <;> by_cases h2 : xs = ys <;> simp [h1, h2]
theorem dictOf_lst {h : MH} {n : Nat} {vs : List MV} (e : h[n]? = some (.lst vs)) : dictOf h (.ref n) = none := by simp [dictOf, e]
theorem eqv_iL {h : MH} {a b : Nat} {xs ys : List Int} (e1 : h[a]? = some (.lst (iL xs))) (e2 : h[b]? = some (.lst (iL ys))) : eqv h (.ref a) (.ref b) = some (decide (xs = ys)) := by
  unfold eqv
  simp only [dictOf_lst e1, dictOf_lst e2, toD_iL e1, toD_iL e2, PyData.eqv, eqvAll_ints]
theorem ne_iL {h : MH} {a b : Nat} {xs ys : List Int} (e1 : h[a]? = some (.lst (iL xs))) (e2 : h[b]? = some (.lst (iL ys))) : cmpop .NotEq (.ref a) (.ref b) h = .ok (.bl (!decide (xs = ys))) h := by
  simp only [cmpop, eqv_iL e1 e2]
theorem any_ints (x : Int) : ∀ xs : List Int, ((xs.map PyData.int).any fun e => PyData.eqv e (.int x)) = decide (x ∈ xs)
  | [] => by simp
  | y :: ys => by
    simp only [List.map_cons, List.any_cons, any_ints x ys, PyData.eqv, List.mem_cons]
    by_cases h1 : y = x
    · subst h1; simp
    · have : ¬ x = y := fun z => h1 z.symm
      simp [h1, this]
theorem in_iL {h : MH} {a : Nat} {x : Int} {xs : List Int} (e1 : h[a]? = some (.lst (iL xs))) : inOp (.int x) (.ref a) h = some (decide (x ∈ xs)) := by
  unfold inOp
  simp only [dictOf_lst e1, e1, toDs_iL]
  show (match toD h 8 (.int x), some (xs.map PyData.int) with
        | some d, some ds => some (ds.any fun e => PyData.eqv e d)
        | _, _ => none) = _
  show some ((xs.map PyData.int).any fun e => PyData.eqv e (.int x)) = _
  rw [any_ints]
theorem notin_iL {h : MH} {a : Nat} {x : Int} {xs : List Int} (e1 : h[a]? = some (.lst (iL xs))) : cmpop .NotIn (.int x) (.ref a) h = .ok (.bl (!decide (x ∈ xs))) h := by
  simp only [cmpop, in_iL e1]
/-! ### [x for x in l if ..] -/
noncomputable def lcStepP (c : Cfg) (own : List Nat) (t : MT) (elt : ME) (cond : MO2) (ρ : MEnv) (v : MV) (h : MH) : R (Option MV) := match setT t v (wipeM ρ own) with
  | some σ' => (match cond with
    | .none => (xE c elt σ' h).bind fun y h => .ok (some y) h
    | .some e => (xE c e σ' h).bind fun b h => (match truth b h with
      | some true => (xE c elt σ' h).bind fun y h => .ok (some y) h
      | some false => .ok none h
      | none => .bad))
  | none => .bad
def lcEndG (g : Gd) (r : R MV) : R MV := match r with
  | .ok v h => (match g.off h with
    | some h' => .ok v h'
    | none => .bad)
  | _ => .bad
theorem xE_lcP {c : Cfg} {elt : ME} {own : List Nat} {t : MT} {it : MI} {cond : MO2} {ρ : MEnv} {hm h1 h2 : MH} {vs : List MV} {g : Gd} {v : MV} (e : xI c it ρ hm = .ok (vs, g) h1) (hg : ∀ n, g ≠ .lock n) (e2 : lcF g h1.length (lcStepP c own t elt cond ρ) vs (h1 ++ [.lst []]) = .ok v h2) : xE c (.lc elt own t it cond) ρ hm = .ok v h2 := by
  have e0 : xE c (.lc elt own t it cond) ρ hm = (xI c it ρ hm).bind fun vg h => lcEndG vg.2 (lcF vg.2 h.length (lcStepP c own t elt cond ρ) vg.1 (h ++ [.lst []])) := by simp only [xE] <;> rfl
  rw [e0, e, bind_ok]
  show lcEndG g (lcF g h1.length (lcStepP c own t elt cond ρ) vs (h1 ++ [.lst []])) = _
  rw [e2]
  cases g with
  | lock n => exact absurd rfl (hg n)
  | free => rfl
  | obj n u => rfl
theorem lc_filter {c : Cfg} {σ : MEnv} {h h1 : MH} {v nl : Nat} {e ce : ME} {xs : List Int} {p : Int → Bool} (hv : v < σ.length) (e1 : xE c e σ h = .ok (.ref nl) h1) (e2 : h1[nl]? = some (.lst (iL xs))) (hl : xs.length ≤ 100)
    (hc : ∀ x ∈ xs, ∀ h2, Ex h1 h2 → ∃ h3, xE c ce (σ.set v (some (.int x))) h2 = .ok (.bl (p x)) h3 ∧ Ex h2 h3) :
    ∃ h', xE c (.lc (.var v) [v] (.name v) (.seq e) (.some ce)) σ h = .ok (.ref h1.length) h' ∧ Ex h1 h' ∧ h'[h1.length]? = some (.lst (iL (xs.filter p))) := by
  have main : ∀ (ys acc : List Int) (h2 : MH), (∀ y ∈ ys, y ∈ xs) → acc.length + ys.length ≤ 100 → Ex h1 h2 → h2[h1.length]? = some (.lst (iL acc)) →
      ∃ h', lcF (.obj nl (.lst (iL xs))) h1.length (lcStepP c [v] (.name v) (.var v) (.some ce) σ) (iL ys) h2 = .ok (.ref h1.length) h' ∧ Ex h1 h' ∧ h'[h1.length]? = some (.lst (iL (acc ++ ys.filter p))) := by
    intro ys
    induction ys with
    | nil =>
      intro acc h2 _ _ X e3
      have gk : (Gd.obj nl (.lst (iL xs))).ok h2 = true := decide_eq_true (X.get e2)
      exact ⟨h2, by simp [lcF, gk], X, by simpa using e3⟩
    | cons y ys ih =>
      intro acc h2 hm hz X e3
      have gk : (Gd.obj nl (.lst (iL xs))).ok h2 = true := decide_eq_true (X.get e2)
      obtain ⟨h3, c1, c2⟩ := hc y (hm y (List.mem_cons_self ..)) h2 X
      have hs : (wipeM σ [v]).set v (some (.int y)) = σ.set v (some (.int y)) := by simp [wipeM, List.set_set]
      have gv : (σ.set v (some (MV.int y)))[v]? = some (some (.int y)) := List.getElem?_set_self hv
      have e4 := c2.get e3
      simp only [List.length_cons] at hz
      cases hp : p y with
      | true =>
        have st : lcStepP c [v] (.name v) (.var v) (.some ce) σ (.int y) h2 = .ok (some (.int y)) h3 := by
          simp [lcStepP, setT, hs, c1, hp, gv]
        obtain ⟨h', q1, q2, q3⟩ := ih (acc ++ [y]) (h3.set h1.length (.lst (iL (acc ++ [y])))) (fun a ha => hm a (List.mem_cons_of_mem _ ha)) (by simp; omega) ((X.trans c2).set (Nat.le_refl _)) (by rw [List.getElem?_set_self (ltP e4)])
        refine ⟨h', ?_, q2, by rw [q3, List.filter_cons, if_pos hp]; simp⟩
        have hz2 : (iL acc).length < sizeLine := by rw [iL_length, sizeLine_eq]; omega
        show lcF _ _ _ (.int y :: iL ys) _ = _
        simp only [lcF, gk, if_true, st, e4, hz2]
        rw [iL_snoc]
        exact q1
      | false =>
        have st : lcStepP c [v] (.name v) (.var v) (.some ce) σ (.int y) h2 = .ok none h3 := by
          simp [lcStepP, setT, hs, c1, hp]
        obtain ⟨h', q1, q2, q3⟩ := ih acc h3 (fun a ha => hm a (List.mem_cons_of_mem _ ha)) (by omega) (X.trans c2) e4
        refine ⟨h', ?_, q2, by rw [q3, List.filter_cons, if_neg (by rw [hp]; decide)]⟩
        show lcF _ _ _ (.int y :: iL ys) _ = _
        simp only [lcF, gk, if_true, st]
        exact q1
  obtain ⟨h', q1, q2, q3⟩ := main xs [] (h1 ++ [.lst []]) (fun _ h => h) (by simpa using hl) Ex.refl.push (by simp)
  refine ⟨h', ?_, q2, by simpa using q3⟩
  exact xE_lcP (xI_seq e1 e2) (fun _ => by simp) q1
end Mi
namespace K69
open PySem Mi

/-- 0: NoRoom.__init__; slots: 0 self, 1 room -/
def b_NoRoom_init : MSs := (.cons (.setF (.var 0) "room" (.var 1))
 .nil)
def f_NoRoom_init : FnD := ⟨2, 2, [], b_NoRoom_init⟩
/-- 1: NoShare.__init__; slots: 0 self, 1 room -/
def b_NoShare_init : MSs := (.cons (.setF (.var 0) "room" (.var 1))
 .nil)
def f_NoShare_init : FnD := ⟨2, 2, [], b_NoShare_init⟩
/-- 2: divisor; slots: 0 one, 1 other, 2 high, 3 low, 4 rest -/
def b_divisor : MSs := (.cons (.asg (.name 2) (.bf .abs (.cons (.var 0) .nil)))
 (.cons (.asg (.name 3) (.bf .abs (.cons (.var 1) .nil)))
 (.cons (.wh (.cmp .NotEq (.var 3) (.int 0))
 (.cons (.asg (.name 4) (.bin .Mod (.var 2) (.var 3)))
 (.cons (.asg (.name 2) (.var 3))
 (.cons (.asg (.name 3) (.var 4))
 .nil))))
 (.cons (.ret (.var 2))
 .nil))))
def f_divisor : FnD := ⟨2, 5, [], b_divisor⟩
/-- 3: fraction; slots: 0 top, 1 bottom, 2 shared -/
def b_fraction : MSs := (.cons (.ite (.cmp .Eq (.var 1) (.int 0))
 (.cons .never
 .nil)
 .nil)
 (.cons (.asg (.name 2) (.call 2 (.cons (.var 0) (.cons (.var 1) .nil))))
 (.cons (.ite (.cmp .Lt (.var 1) (.int 0))
 (.cons (.asg (.name 2) (.neg (.var 2)))
 .nil)
 .nil)
 (.cons (.ret (.tup (.cons (.bin .FloorDiv (.var 0) (.var 2)) (.cons (.bin .FloorDiv (.var 1) (.var 2)) .nil))))
 .nil))))
def f_fraction : FnD := ⟨2, 3, [], b_fraction⟩
/-- 4: plus; slots: 0 one, 1 other -/
def b_plus : MSs := (.cons (.ret (.call 3 (.cons (.bin .Add (.bin .Mult (.idx (.var 0) (.int 0)) (.idx (.var 1) (.int 1))) (.bin .Mult (.idx (.var 1) (.int 0)) (.idx (.var 0) (.int 1)))) (.cons (.bin .Mult (.idx (.var 0) (.int 1)) (.idx (.var 1) (.int 1))) .nil))))
 .nil)
def f_plus : FnD := ⟨2, 2, [], b_plus⟩
/-- 5: minus; slots: 0 one, 1 other -/
def b_minus : MSs := (.cons (.ret (.call 3 (.cons (.bin .Sub (.bin .Mult (.idx (.var 0) (.int 0)) (.idx (.var 1) (.int 1))) (.bin .Mult (.idx (.var 1) (.int 0)) (.idx (.var 0) (.int 1)))) (.cons (.bin .Mult (.idx (.var 0) (.int 1)) (.idx (.var 1) (.int 1))) .nil))))
 .nil)
def f_minus : FnD := ⟨2, 2, [], b_minus⟩
/-- 6: under; slots: 0 one, 1 other -/
def b_under : MSs := (.cons (.ret (.cmp .Lt (.bin .Mult (.idx (.var 0) (.int 0)) (.idx (.var 1) (.int 1))) (.bin .Mult (.idx (.var 1) (.int 0)) (.idx (.var 0) (.int 1)))))
 .nil)
def f_under : FnD := ⟨2, 2, [], b_under⟩
/-- 7: is_bound; slots: 0 thing, 1 most -/
def b_is_bound : MSs := (.cons (.ret (.and (.isi (.var 0) [.int] true) (.and (.not (.isi (.var 0) [.bool] true)) (.cmp2 .LtE .LtE (.int 0) (.var 0) (.var 1)))))
 .nil)
def f_is_bound : FnD := ⟨2, 2, [], b_is_bound⟩
/-- 8: do_rise; slots: 0 marks, 1 k -/
def b_do_rise : MSs := (.cons (.ite (.or (.cmp .Lt (.bf .len (.cons (.var 0) .nil)) (.int 2)) (.cmp .Gt (.bf .len (.cons (.var 0) .nil)) (.int 7)))
 (.cons (.ret (.bl false))
 .nil)
 .nil)
 (.cons (.loop (.name 1) (.rng (.cons (.bin .Sub (.bf .len (.cons (.var 0) .nil)) (.int 1)) .nil))
 (.cons (.ite (.not (.call 6 (.cons (.idx (.var 0) (.var 1)) (.cons (.idx (.var 0) (.bin .Add (.var 1) (.int 1))) .nil))))
 (.cons (.ret (.bl false))
 .nil)
 .nil)
 .nil))
 (.cons (.ret (.bl true))
 .nil)))
def f_do_rise : FnD := ⟨1, 2, [], b_do_rise⟩
/-- 9: Hold.__init__; slots: 0 self, 1 most, 2 cap, 3 load -/
def b_Hold_init : MSs := (.cons (.ite (.or (.not (.call 7 (.cons (.var 1) (.cons (.int 4) .nil)))) (.or (.not (.call 7 (.cons (.var 2) (.cons (.int 30) .nil)))) (.not (.call 7 (.cons (.var 3) (.cons (.int 30) .nil))))))
 (.cons .never
 .nil)
 .nil)
 (.cons (.setF (.var 0) "most" (.var 1))
 (.cons (.setF (.var 0) "cap" (.var 2))
 (.cons (.setF (.var 0) "load" (.var 3))
 (.cons (.setF (.var 0) "my_marks" (.lst .nil))
 (.cons (.setF (.var 0) "my_flows" (.lst .nil))
 (.cons (.setF (.var 0) "my_skies" (.lst .nil))
 (.cons (.setF (.var 0) "my_stoves" (.lst .nil))
 .nil))))))))
def f_Hold_init : FnD := ⟨4, 4, [MV.int (4), MV.int (0), MV.int (0)], b_Hold_init⟩
/-- 10: Hold.ask_room; slots: 0 self, 1 room -/
def b_Hold_ask_room : MSs := (.cons (.ite (.or (.cmp .Lt (.var 1) (.int 0)) (.cmp .GtE (.var 1) (.bf .len (.cons (.fld (.var 0) "my_marks") .nil))))
 (.cons .never
 .nil)
 .nil)
 .nil)
def f_Hold_ask_room : FnD := ⟨2, 2, [], b_Hold_ask_room⟩
/-- 11: Hold.taken_share; slots: 0 self, 1 room, 2 whole, 3 one -/
def b_Hold_taken_share : MSs := (.cons (.asg (.name 2) (.idx (.idx (.fld (.var 0) "my_skies") (.var 1)) (.int 0)))
 (.cons (.loop (.name 3) (.seq (.idx (.fld (.var 0) "my_flows") (.var 1)))
 (.cons (.asg (.name 2) (.call 4 (.cons (.var 2) (.cons (.var 3) .nil))))
 .nil))
 (.cons (.ret (.var 2))
 .nil)))
def f_Hold_taken_share : FnD := ⟨2, 4, [], b_Hold_taken_share⟩
/-- 12: Hold.put_room; slots: 0 self, 1 marks, 2 many, 3 one, 4 row -/
def b_Hold_put_room : MSs := (.cons (.ite (.cmp .Eq (.bf .len (.cons (.fld (.var 0) "my_marks") .nil)) (.int 4))
 (.cons .never
 .nil)
 .nil)
 (.cons (.ite (.not (.call 8 (.cons (.var 1) .nil)))
 (.cons .never
 .nil)
 .nil)
 (.cons (.asg (.name 2) (.bin .Sub (.bf .len (.cons (.var 1) .nil)) (.int 1)))
 (.cons (.loop (.name 3) (.seq (.fld (.var 0) "my_marks"))
 (.cons (.asg (.name 2) (.bin .Mult (.var 2) (.bin .Sub (.bf .len (.cons (.var 3) .nil)) (.int 1))))
 .nil))
 (.cons (.ite (.cmp .Gt (.var 2) (.int 400))
 (.cons .never
 .nil)
 .nil)
 (.cons (.loop (.name 4) (.seq (.fld (.var 0) "my_flows"))
 (.cons (.expr (.bm .append (.var 4) (.cons (.glob 0) .nil)))
 .nil))
 (.cons (.expr (.bm .append (.fld (.var 0) "my_marks") (.cons (.bf .list (.cons (.var 1) .nil)) .nil)))
 (.cons (.expr (.bm .append (.fld (.var 0) "my_flows") (.cons (.bin .Mult (.lst (.cons (.glob 0) .nil)) (.bf .len (.cons (.fld (.var 0) "my_marks") .nil))) .nil)))
 (.cons (.expr (.bm .append (.fld (.var 0) "my_skies") (.cons (.tup (.cons (.glob 0) (.cons (.glob 0) (.cons (.glob 0) .nil)))) .nil)))
 (.cons (.expr (.bm .append (.fld (.var 0) "my_stoves") (.cons .non .nil)))
 (.cons (.ret (.bin .Sub (.bf .len (.cons (.fld (.var 0) "my_marks") .nil)) (.int 1)))
 .nil)))))))))))
def f_Hold_put_room : FnD := ⟨2, 5, [], b_Hold_put_room⟩
/-- 13: Hold.put_flow; slots: 0 self, 1 into, 2 of, 3 share, 4 whole -/
def b_Hold_put_flow : MSs := (.cons (.expr (.meth (.var 0) "ask_room" (.cons (.var 1) .nil)))
 (.cons (.expr (.meth (.var 0) "ask_room" (.cons (.var 2) .nil)))
 (.cons (.ite (.cmp .Eq (.var 1) (.var 2))
 (.cons .never
 .nil)
 .nil)
 (.cons (.asg (.name 4) (.call 4 (.cons (.call 5 (.cons (.meth (.var 0) "taken_share" (.cons (.var 1) .nil)) (.cons (.idx (.idx (.fld (.var 0) "my_flows") (.var 1)) (.var 2)) .nil))) (.cons (.var 3) .nil))))
 (.cons (.ite (.or (.call 6 (.cons (.var 3) (.cons (.glob 0) .nil))) (.call 6 (.cons (.glob 1) (.cons (.var 4) .nil))))
 (.cons .never
 .nil)
 .nil)
 (.cons (.setI (.idx (.fld (.var 0) "my_flows") (.var 1)) (.var 2) (.var 3))
 .nil))))))
def f_Hold_put_flow : FnD := ⟨4, 5, [], b_Hold_put_flow⟩
/-- 14: Hold.many; slots: 0 self -/
def b_Hold_many : MSs := (.cons (.ret (.bf .len (.cons (.fld (.var 0) "my_marks") .nil)))
 .nil)
def f_Hold_many : FnD := ⟨1, 1, [], b_Hold_many⟩
/-- 15: Hold.marks; slots: 0 self, 1 room -/
def b_Hold_marks : MSs := (.cons (.expr (.meth (.var 0) "ask_room" (.cons (.var 1) .nil)))
 (.cons (.ret (.bf .list (.cons (.idx (.fld (.var 0) "my_marks") (.var 1)) .nil)))
 .nil))
def f_Hold_marks : FnD := ⟨2, 2, [], b_Hold_marks⟩
/-- 16: Hold.share; slots: 0 self, 1 into, 2 of -/
def b_Hold_share : MSs := (.cons (.expr (.meth (.var 0) "ask_room" (.cons (.var 1) .nil)))
 (.cons (.expr (.meth (.var 0) "ask_room" (.cons (.var 2) .nil)))
 (.cons (.ite (.cmp .Eq (.var 1) (.var 2))
 (.cons (.ret (.call 5 (.cons (.glob 1) (.cons (.meth (.var 0) "taken_share" (.cons (.var 1) .nil)) .nil))))
 .nil)
 .nil)
 (.cons (.ret (.idx (.idx (.fld (.var 0) "my_flows") (.var 1)) (.var 2)))
 .nil))))
def f_Hold_share : FnD := ⟨3, 3, [], b_Hold_share⟩
/-- 17: is_touching; slots: 0 hold, 1 one, 2 other -/
def b_is_touching : MSs := (.cons (.ret (.or (.call 6 (.cons (.glob 2) (.cons (.meth (.var 0) "share" (.cons (.var 1) (.cons (.var 2) .nil))) .nil))) (.call 6 (.cons (.glob 2) (.cons (.meth (.var 0) "share" (.cons (.var 2) (.cons (.var 1) .nil))) .nil)))))
 .nil)
def f_is_touching : FnD := ⟨3, 3, [], b_is_touching⟩
/-- 18: part_by; slots: 0 hold, 1 first, 2 left, 3 part, 4 at, 5 one -/
def b_part_by : MSs := (.cons (.asg (.name 3) (.lst (.cons (.var 1) .nil)))
 (.cons (.asg (.name 4) (.int 0))
 (.cons (.wh (.cmp .Lt (.var 4) (.bf .len (.cons (.var 3) .nil)))
 (.cons (.loop (.name 5) (.seq (.bf .list (.cons (.var 2) .nil)))
 (.cons (.ite (.call 17 (.cons (.var 0) (.cons (.idx (.var 3) (.var 4)) (.cons (.var 5) .nil))))
 (.cons (.expr (.bm .append (.var 3) (.cons (.var 5) .nil)))
 (.cons (.expr (.bm .remove (.var 2) (.cons (.var 5) .nil)))
 .nil))
 .nil)
 .nil))
 (.cons (.asg (.name 4) (.bin .Add (.var 4) (.int 1)))
 .nil)))
 (.cons (.ret (.bf .sorted (.cons (.var 3) .nil)))
 .nil))))
def f_part_by : FnD := ⟨3, 6, [], b_part_by⟩
/-- 19: parts_of; slots: 0 hold, 1 left, 2 found, 3 first -/
def b_parts_of : MSs := (.cons (.asg (.name 1) (.bf .listRange (.cons (.meth (.var 0) "many" .nil) .nil)))
 (.cons (.asg (.name 2) (.lst .nil))
 (.cons (.wh (.var 1)
 (.cons (.asg (.name 3) (.bm .popAt (.var 1) (.cons (.int 0) .nil)))
 (.cons (.expr (.bm .append (.var 2) (.cons (.call 18 (.cons (.var 0) (.cons (.var 3) (.cons (.var 1) .nil)))) .nil)))
 .nil)))
 (.cons (.ret (.var 2))
 .nil))))
def f_parts_of : FnD := ⟨1, 4, [], b_parts_of⟩
/-- 20: _law_cell_at; slots: 0 _law_script, 1 _law_k -/
def b_law_cell_at : MSs := (.cons (.ite (.cmp .Lt (.var 1) (.bf .len (.cons (.var 0) .nil)))
 (.cons (.ret (.idx (.var 0) (.var 1)))
 .nil)
 .nil)
 (.cons (.ret (.int 0))
 .nil))
def f_law_cell_at : FnD := ⟨2, 2, [], b_law_cell_at⟩
/-- 21: _law_part; slots: 0 _law_top, 1 _law_bottom, 2 _law_one, 3 _law_other, 4 _law_rest -/
def b_law_part : MSs := (.cons (.asg (.name 2) (.bf .abs (.cons (.var 0) .nil)))
 (.cons (.asg (.name 3) (.var 1))
 (.cons (.wh (.cmp .Gt (.var 3) (.int 0))
 (.cons (.asg (.name 4) (.bin .Mod (.var 2) (.var 3)))
 (.cons (.asg (.name 2) (.var 3))
 (.cons (.asg (.name 3) (.var 4))
 .nil))))
 (.cons (.ret (.tup (.cons (.bin .FloorDiv (.var 0) (.var 2)) (.cons (.bin .FloorDiv (.var 1) (.var 2)) .nil))))
 .nil))))
def f_law_part : FnD := ⟨2, 5, [], b_law_part⟩
/-- 22: _law_share; slots: 0 _law_cell, 1 _law_bottom -/
def b_law_share : MSs := (.cons (.asg (.name 1) (.bin .Add (.int 4) (.bin .Mod (.bin .FloorDiv (.var 0) (.int 16)) (.bin .Sub (.bin .Pow (.int 10) (.int 30)) (.int 4)))))
 (.cons (.ret (.call 21 (.cons (.bin .Add (.int 1) (.bin .Mod (.bin .Mod (.bin .FloorDiv (.var 0) (.int 16)) (.bin .Pow (.int 10) (.int 29))) (.bin .FloorDiv (.var 1) (.int 4)))) (.cons (.var 1) .nil))))
 .nil))
def f_law_share : FnD := ⟨1, 2, [], b_law_share⟩
/-- 23: _law_parts; slots: 0 _law_many, 1 _law_takes, 2 _law_left, 3 _law_found, 4 _law_part_here, 5 _law_grown, 6 _law_more, 7 _law_j, 8 _law_i -/
def b_law_parts : MSs := (.cons (.asg (.name 2) (.bf .listRange (.cons (.var 0) .nil)))
 (.cons (.asg (.name 3) (.lst .nil))
 (.cons (.wh (.cmp .NotEq (.var 2) (.lst .nil))
 (.cons (.asg (.name 4) (.lst (.cons (.idx (.var 2) (.int 0)) .nil)))
 (.cons (.asg (.name 5) (.bl true))
 (.cons (.wh (.var 5)
 (.cons (.asg (.name 6) (.lc (.var 7) [7] (.name 7) (.seq (.var 2)) (.some (.and (.cmp .NotIn (.var 7) (.var 4)) (.cmp .NotEq (.lc (.var 8) [8] (.name 8) (.seq (.var 4)) (.some (.or (.cmp .In (.tup (.cons (.var 8) (.cons (.var 7) .nil))) (.var 1)) (.cmp .In (.tup (.cons (.var 7) (.cons (.var 8) .nil))) (.var 1))))) (.lst .nil))))))
 (.cons (.asg (.name 4) (.bin .Add (.var 4) (.var 6)))
 (.cons (.asg (.name 5) (.cmp .NotEq (.var 6) (.lst .nil)))
 .nil))))
 (.cons (.expr (.bm .append (.var 3) (.cons (.bf .sorted (.cons (.var 4) .nil)) .nil)))
 (.cons (.asg (.name 2) (.lc (.var 7) [7] (.name 7) (.seq (.var 2)) (.some (.cmp .NotIn (.var 7) (.var 4)))))
 .nil))))))
 (.cons (.ret (.var 3))
 .nil))))
def f_law_parts : FnD := ⟨2, 9, [], b_law_parts⟩
/-- 24: _law_right; slots: 0 _law_hold, 1 _law_takes, 2 _law_found, 3 _law_due, 4 _law_part_here, 5 _law_one -/
def b_law_right : MSs := (.cons (.asg (.name 2) (.call 19 (.cons (.var 0) .nil)))
 (.cons (.asg (.name 3) (.call 23 (.cons (.meth (.var 0) "many" .nil) (.cons (.var 1) .nil))))
 (.cons (.ite (.or (.not (.isi (.var 2) [.list] true)) (.cmp .NotEq (.var 2) (.var 3)))
 (.cons (.ret (.bl false))
 .nil)
 .nil)
 (.cons (.loop (.name 4) (.seq (.var 2))
 (.cons (.ite (.or (.not (.isi (.var 4) [.list] true)) (.cmp .NotEq (.lc (.var 5) [5] (.name 5) (.seq (.var 4)) (.some (.isi (.var 5) [.bool] true))) (.lst .nil)))
 (.cons (.ret (.bl false))
 .nil)
 .nil)
 .nil))
 (.cons (.expr (.bm .append (.idx (.var 2) (.int 0)) (.cons (.int 7) .nil)))
 (.cons (.expr (.bm .append (.var 2) (.cons (.lst (.cons (.int 9) .nil)) .nil)))
 (.cons (.ret (.cmp .Eq (.call 19 (.cons (.var 0) .nil)) (.var 3)))
 .nil)))))))
def f_law_right : FnD := ⟨2, 6, [], b_law_right⟩
/-- 25: law; slots: 0 _law_script, 1 _law_hold, 2 _law_many, 3 _law_k, 4 _law_takes, 5 _law_cell, 6 _law_one, 7 _law_other -/
def b_law : MSs := (.cons (.asg (.name 1) (.make 8 .nil))
 (.cons (.asg (.name 2) (.bin .Add (.int 1) (.bin .Mod (.call 20 (.cons (.var 0) (.cons (.int 0) .nil))) (.int 4))))
 (.cons (.loop (.name 3) (.rng (.cons (.var 2) .nil))
 (.cons (.expr (.meth (.var 1) "put_room" (.cons (.lst (.cons (.tup (.cons (.var 3) (.cons (.int 1) .nil))) (.cons (.tup (.cons (.bin .Add (.var 3) (.int 1)) (.cons (.int 1) .nil))) .nil))) .nil)))
 .nil))
 (.cons (.asg (.name 4) .dic0)
 (.cons (.loop (.name 3) (.rng (.cons (.bin .Add (.int 4) (.bin .Mod (.bin .FloorDiv (.call 20 (.cons (.var 0) (.cons (.int 0) .nil))) (.int 4)) (.int 21))) .nil))
 (.cons (.asg (.name 5) (.bin .Add (.call 20 (.cons (.var 0) (.cons (.bin .Add (.int 1) (.var 3)) .nil))) (.bin .Mult (.bin .Mult (.int 48271) (.var 3)) (.var 3))))
 (.cons (.asg (.name 6) (.bin .Mod (.var 5) (.var 2)))
 (.cons (.asg (.name 7) (.bin .Mod (.bin .FloorDiv (.var 5) (.int 4)) (.var 2)))
 (.cons (.ite (.cmp .NotEq (.var 6) (.var 7))
 (.cons (.ite (.cmp .Eq (.bin .Mod (.bin .FloorDiv (.var 5) (.int 97)) (.int 3)) (.int 0))
 (.cons (.expr (.meth (.var 1) "put_flow" (.cons (.var 6) (.cons (.var 7) (.cons (.tup (.cons (.int 0) (.cons (.int 1) .nil))) .nil)))))
 (.cons (.expr (.bm .dpop2 (.var 4) (.cons (.tup (.cons (.var 6) (.cons (.var 7) .nil))) (.cons .non .nil))))
 .nil))
 (.cons (.expr (.meth (.var 1) "put_flow" (.cons (.var 6) (.cons (.var 7) (.cons (.call 22 (.cons (.var 5) .nil)) .nil)))))
 (.cons (.setI (.var 4) (.tup (.cons (.var 6) (.cons (.var 7) .nil))) (.bl true))
 .nil)))
 (.cons (.ite (.and (.cmp .Eq (.bin .Mod (.bin .FloorDiv (.var 5) (.int 291)) (.int 3)) (.int 0)) (.not (.call 24 (.cons (.var 1) (.cons (.var 4) .nil)))))
 (.cons (.ret (.bl false))
 .nil)
 .nil)
 .nil))
 .nil)
 .nil)))))
 (.cons (.ret (.call 24 (.cons (.var 1) (.cons (.var 4) .nil))))
 .nil))))))
def f_law : FnD := ⟨1, 8, [], b_law⟩
def fnsL : List FnD := [f_NoRoom_init, f_NoShare_init, f_divisor, f_fraction, f_plus, f_minus, f_under, f_is_bound, f_do_rise, f_Hold_init, f_Hold_ask_room, f_Hold_taken_share, f_Hold_put_room, f_Hold_put_flow, f_Hold_many, f_Hold_marks, f_Hold_share, f_is_touching, f_part_by, f_parts_of, f_law_cell_at, f_law_part, f_law_share, f_law_parts, f_law_right, f_law]
def c_StokeError : ClD := ⟨[0], true, [], []⟩
def c_NoNumber : ClD := ⟨[1, 0], true, [], []⟩
def c_NoHold : ClD := ⟨[2, 0], true, [], []⟩
def c_Full : ClD := ⟨[3, 0], true, [], []⟩
def c_NoMarks : ClD := ⟨[4, 0], true, [], []⟩
def c_TooMany : ClD := ⟨[5, 0], true, [], []⟩
def c_NoRoom : ClD := ⟨[6, 0], true, [], ["room"]⟩
def c_NoShare : ClD := ⟨[7, 0], true, [], ["room"]⟩
def c_Hold : ClD := ⟨[8], false, [("__init__", 9), ("ask_room", 10), ("taken_share", 11), ("put_room", 12), ("put_flow", 13), ("many", 14), ("marks", 15), ("share", 16)], []⟩
def clsL : List ClD := [c_StokeError, c_NoNumber, c_NoHold, c_Full, c_NoMarks, c_TooMany, c_NoRoom, c_NoShare, c_Hold]
def consL : List (Str × MV) := [("NOUGHT_holds", MV.tup [MV.int (0), MV.int (1)]), ("ONE", MV.tup [MV.int (1), MV.int (1)]), ("NOUGHT_parts", MV.tup [MV.int (0), MV.int (1)])]
def P : Prog := ⟨fnsL, clsL, consL⟩
theorem fn_NoRoom_init : P.fns[0]? = some f_NoRoom_init := rfl
theorem fn_NoShare_init : P.fns[1]? = some f_NoShare_init := rfl
theorem fn_divisor : P.fns[2]? = some f_divisor := rfl
theorem fn_fraction : P.fns[3]? = some f_fraction := rfl
theorem fn_plus : P.fns[4]? = some f_plus := rfl
theorem fn_minus : P.fns[5]? = some f_minus := rfl
theorem fn_under : P.fns[6]? = some f_under := rfl
theorem fn_is_bound : P.fns[7]? = some f_is_bound := rfl
theorem fn_do_rise : P.fns[8]? = some f_do_rise := rfl
theorem fn_Hold_init : P.fns[9]? = some f_Hold_init := rfl
theorem fn_Hold_ask_room : P.fns[10]? = some f_Hold_ask_room := rfl
theorem fn_Hold_taken_share : P.fns[11]? = some f_Hold_taken_share := rfl
theorem fn_Hold_put_room : P.fns[12]? = some f_Hold_put_room := rfl
theorem fn_Hold_put_flow : P.fns[13]? = some f_Hold_put_flow := rfl
theorem fn_Hold_many : P.fns[14]? = some f_Hold_many := rfl
theorem fn_Hold_marks : P.fns[15]? = some f_Hold_marks := rfl
theorem fn_Hold_share : P.fns[16]? = some f_Hold_share := rfl
theorem fn_is_touching : P.fns[17]? = some f_is_touching := rfl
theorem fn_part_by : P.fns[18]? = some f_part_by := rfl
theorem fn_parts_of : P.fns[19]? = some f_parts_of := rfl
theorem fn_law_cell_at : P.fns[20]? = some f_law_cell_at := rfl
theorem fn_law_part : P.fns[21]? = some f_law_part := rfl
theorem fn_law_share : P.fns[22]? = some f_law_share := rfl
theorem fn_law_parts : P.fns[23]? = some f_law_parts := rfl
theorem fn_law_right : P.fns[24]? = some f_law_right := rfl
theorem fn_law : P.fns[25]? = some f_law := rfl
end K69
set_option exponentiation.threshold 3000
namespace K69
open PySem Mi

/-! ### numbers -/
/-- |a| small -/
def Sm (a : Int) : Prop := a.natAbs < 2 ^ 2000
theorem Sm.mul {a b : Int} (ha : Sm a) (hb : Sm b) : MulOk a b := mulOk_of (Nat.lt_of_lt_of_le ha (Nat.pow_le_pow_right (by omega) (by omega))) (Nat.lt_of_lt_of_le hb (Nat.pow_le_pow_right (by omega) (by omega)))
theorem Sm.div {a : Int} (ha : Sm a) (h : a ≠ 0) : DivOk a := divOk_of h (Nat.lt_of_lt_of_le ha (Nat.pow_le_pow_right (by omega) (by omega)))
theorem abs_eq (a : Int) : (if a < 0 then -a else a) = (a.natAbs : Int) := by split <;> omega
@[simp] theorem fin_out {r : R MV} {σ : MEnv} : ((r.out σ fun v h => Out.rt v h).seq (xB c .nil)).fin = r := by cases r <;> simp [Out.fin, R.out, Out.seq]

theorem c_under {k : Nat} {h : MH} {a b c d : Int} (ha : Sm a) (hb : Sm b) (hc : Sm c) (hd : Sm d) : callN P (k + 1) 6 [.tup [.int a, .int b], .tup [.int c, .int d]] h = .ok (.bl (decide (a * d < c * b))) h := by
  rw [call_eq fn_under rfl]
  simp [f_under, b_under, FnD.start, FnD.fill, getIx, dictOf, seqOf, L2.atI, L2.ixN, binop, cmpop, intLt, ha.mul hd, hc.mul hb]
theorem c_divisor {k : Nat} {h : MH} {a b : Int} : callN P (k + 1) 2 [.int a, .int b] h = .ok (.int (Int.gcd a b)) h := by
  rw [call_eq fn_divisor rfl]
  simp only [f_divisor, b_divisor, FnD.start, FnD.fill, bfn, xB_cons, xS_asgN, xE_bf, xEs_cons, xEs_nil, xE_var, bind_ok, out_ok, seq_nx, List.drop_nil, List.append_nil, List.length_nil, List.map_cons, List.map_nil, List.replicate, List.cons_append, List.nil_append, List.getElem?_cons_zero, List.getElem?_cons_succ, List.set_cons_succ, List.set_cons_zero, abs_eq, xS_wh]
  have main := whF_inv (c := xT (cfg P k) (.cmp .NotEq (.var 3) (.int 0))) (b := xB (cfg P k) (.cons (.asg (.name 4) (.bin .Mod (.var 2) (.var 3))) (.cons (.asg (.name 2) (.var 3)) (.cons (.asg (.name 3) (.var 4)) .nil))))
    (fun m σ h' => ∃ (x y : Nat) (r : Option MV), σ = [some (.int a), some (.int b), some (.int x), some (.int y), r] ∧ h' = h ∧ m = y ∧ Nat.gcd x y = Int.gcd a b)
    (fun o => ∃ (y : MV) (r : Option MV), o = .nx [some (.int a), some (.int b), some (.int (Int.gcd a b)), some y, r] h) ?_ b.natAbs [some (.int a), some (.int b), some (.int a.natAbs), some (.int b.natAbs), none] h ⟨a.natAbs, b.natAbs, none, rfl, rfl, rfl, rfl⟩
  · obtain ⟨y, r, e⟩ := main
    simp [e]
  · rintro m σ h' ⟨x, y, r, rfl, rfl, rfl, hg⟩
    by_cases hy : m = 0
    · subst hy
      left
      rw [Nat.gcd_zero_right] at hg
      exact ⟨h', by simp [xT_eq, cmpop], .int 0, r, by rw [hg]; rfl⟩
    · right
      refine ⟨h', by simp [xT_eq, cmpop, hy], .inl ⟨[some (.int a), some (.int b), some (.int m), some (.int ((x % m : Nat) : Int)), some (.int ((x % m : Nat) : Int))], h', x % m, Nat.mod_lt _ (by omega), .inl ?_, m, x % m, _, rfl, rfl, rfl, ?_⟩⟩
      · have : (m : Int) ≠ 0 := by omega
        have e : (x : Int).fmod (m : Int) = ((x % m : Nat) : Int) := by
          rw [Int.fmod_eq_emod_of_nonneg _ (by omega)]
          rfl
        simp [binop, this, hy, e]
      · rw [Nat.gcd_comm m, ← Nat.gcd_rec, Nat.gcd_comm]
        exact hg
/-- a fraction as a value -/
abbrev fr (x : Int × Int) : MV := .tup [.int x.1, .int x.2]
/-- 0 < bottom <= B, -d bottom <= 4 top <= c bottom -/
structure Fr (B : Nat) (c d : Int) (x : Int × Int) : Prop where
  pos : 0 < x.2
  le : x.2 ≤ B
  hi : 4 * x.1 ≤ c * x.2
  lo : -(d * x.2) ≤ 4 * x.1
theorem Fr.mono {B B' : Nat} {c d c' d' : Int} {x : Int × Int} (h : Fr B c d x) (hB : B ≤ B') (hc : c ≤ c') (hd : d ≤ d') : Fr B' c' d' x := by
  have p := h.pos
  refine ⟨p, by have := h.le; omega, Int.le_trans h.hi (Int.mul_le_mul_of_nonneg_right hc (by omega)), ?_⟩
  have := Int.mul_le_mul_of_nonneg_right hd (show (0 : Int) ≤ x.2 by omega)
  have := h.lo
  omega
theorem Fr.abs {B : Nat} {c d : Int} {x : Int × Int} (h : Fr B c d x) (hc : c ≤ 8) (hd : d ≤ 8) : x.1.natAbs ≤ 2 * B := by
  have h1 := Int.mul_le_mul_of_nonneg_right hc (show (0 : Int) ≤ x.2 by have := h.pos; omega)
  have h2 := Int.mul_le_mul_of_nonneg_right hd (show (0 : Int) ≤ x.2 by have := h.pos; omega)
  have := h.hi
  have := h.lo
  have := h.le
  have := h.pos
  omega
/-- top // shared, bottom // shared -/
theorem c_fraction {k : Nat} {h : MH} {a b : Int} (hb : 0 < b) (hs : Sm b) : callN P (k + 2) 3 [.int a, .int b] h = .ok (fr (a / (Int.gcd a b : Int), b / (Int.gcd a b : Int))) h := by
  rw [call_eq fn_fraction rfl]
  have hg : 0 < Int.gcd a b := by
    rw [Int.gcd_pos_iff]
    exact .inr (by omega)
  have h0 : b ≠ 0 := by omega
  have h1 : ¬ b < 0 := by omega
  have hle : Int.gcd a b ≤ b.natAbs := Nat.le_of_dvd (by omega) (Int.gcd_dvd_natAbs_right a b)
  have hd : DivOk (Int.gcd a b : Int) := Sm.div (by unfold Sm; unfold Sm at hs; omega) (by omega)
  have e1 : a.fdiv (Int.gcd a b : Int) = a / (Int.gcd a b : Int) := Int.fdiv_eq_ediv_of_nonneg _ (by omega)
  have e2 : b.fdiv (Int.gcd a b : Int) = b / (Int.gcd a b : Int) := Int.fdiv_eq_ediv_of_nonneg _ (by omega)
  simp [f_fraction, b_fraction, FnD.start, FnD.fill, xT_eq, cmpop, intLt, h0, h1, c_divisor, binop, hd, e1, e2]
theorem fr_div {g x y : Int} {B : Nat} {c d : Int} (hg : 0 < g) (h : Fr B c d (g * x, g * y)) : Fr B c d (x, y) := by
  obtain ⟨h1, h2, h3, h4⟩ := h
  simp only at h1 h2 h3 h4
  have hy : 0 < y := Int.pos_of_mul_pos_right h1 hg
  refine ⟨hy, ?_, ?_, ?_⟩
  · show y ≤ B
    have : 1 * y ≤ g * y := Int.mul_le_mul_of_nonneg_right (by omega) (by omega)
    omega
  · show 4 * x ≤ c * y
    refine Int.le_of_mul_le_mul_left (a := g) ?_ hg
    rw [show g * (4 * x) = 4 * (g * x) by rw [Int.mul_left_comm], show g * (c * y) = c * (g * y) by rw [Int.mul_left_comm]]
    exact h3
  · show -(d * y) ≤ 4 * x
    refine Int.le_of_mul_le_mul_left (a := g) ?_ hg
    rw [show g * (4 * x) = 4 * (g * x) by rw [Int.mul_left_comm], Int.mul_neg, show g * (d * y) = d * (g * y) by rw [Int.mul_left_comm]]
    exact h4
theorem fr_red {a b : Int} {B : Nat} {c d : Int} (h : Fr B c d (a, b)) : Fr B c d (a / (Int.gcd a b : Int), b / (Int.gcd a b : Int)) := by
  have hb : 0 < b := h.pos
  have hg : 0 < Int.gcd a b := by
    rw [Int.gcd_pos_iff]
    exact .inr (by omega)
  obtain ⟨x, hx⟩ := Int.gcd_dvd_left (a := a) (b := b)
  obtain ⟨y, hy⟩ := Int.gcd_dvd_right (a := a) (b := b)
  have ex : a / (Int.gcd a b : Int) = x := Int.ediv_eq_of_eq_mul_right (by omega) hx
  have ey : b / (Int.gcd a b : Int) = y := Int.ediv_eq_of_eq_mul_right (by omega) hy
  rw [ex, ey]
  refine fr_div (g := (Int.gcd a b : Int)) (by omega) ?_
  rw [← hx, ← hy]
  exact h
theorem mul_le_B {x y : Int} {B C : Nat} (hx : 0 < x) (hy : 0 < y) (h1 : x ≤ B) (h2 : y ≤ C) : x * y ≤ ((B * C : Nat) : Int) := by
  have := Int.mul_le_mul h1 h2 (by omega) (by omega)
  rw [Int.natCast_mul]
  exact this
theorem fr_add {x y : Int × Int} {B C : Nat} {c d c' d' : Int} (hx : Fr B c d x) (hy : Fr C c' d' y) : Fr (B * C) (c + c') (d + d') (x.1 * y.2 + y.1 * x.2, x.2 * y.2) := by
  obtain ⟨a1, a2⟩ := x
  obtain ⟨b1, b2⟩ := y
  have p1 : 0 < a2 := hx.pos
  have p2 : 0 < b2 := hy.pos
  refine ⟨Int.mul_pos p1 p2, mul_le_B p1 p2 hx.le hy.le, ?_, ?_⟩
  · show 4 * (a1 * b2 + b1 * a2) ≤ (c + c') * (a2 * b2)
    have q1 := Int.mul_le_mul_of_nonneg_right hx.hi (show (0 : Int) ≤ b2 by omega)
    have q2 := Int.mul_le_mul_of_nonneg_right hy.hi (show (0 : Int) ≤ a2 by omega)
    simp only at q1 q2
    have e1 : 4 * (a1 * b2 + b1 * a2) = 4 * a1 * b2 + 4 * b1 * a2 := by rw [Int.mul_add, Int.mul_assoc, Int.mul_assoc]
    have e2 : (c + c') * (a2 * b2) = c * a2 * b2 + c' * b2 * a2 := by
      rw [Int.add_mul, Int.mul_assoc c, Int.mul_assoc c', Int.mul_comm b2 a2]
    rw [e1, e2]
    omega
  · show -((d + d') * (a2 * b2)) ≤ 4 * (a1 * b2 + b1 * a2)
    have q1 := Int.mul_le_mul_of_nonneg_right hx.lo (show (0 : Int) ≤ b2 by omega)
    have q2 := Int.mul_le_mul_of_nonneg_right hy.lo (show (0 : Int) ≤ a2 by omega)
    simp only at q1 q2
    rw [Int.neg_mul] at q1 q2
    have e1 : 4 * (a1 * b2 + b1 * a2) = 4 * a1 * b2 + 4 * b1 * a2 := by rw [Int.mul_add, Int.mul_assoc, Int.mul_assoc]
    have e2 : (d + d') * (a2 * b2) = d * a2 * b2 + d' * b2 * a2 := by
      rw [Int.add_mul, Int.mul_assoc d, Int.mul_assoc d', Int.mul_comm b2 a2]
    rw [e1, e2]
    omega
theorem fr_neg {x : Int × Int} {B : Nat} {c d : Int} (h : Fr B c d x) : Fr B d c (-x.1, x.2) := ⟨h.pos, h.le, by have := h.lo; show 4 * -x.1 ≤ d * x.2; omega, by have := h.hi; show -(c * x.2) ≤ 4 * -x.1; omega⟩
def BB : Nat := 10 ^ 30
/-- small: bottom at most 10^180 -/
theorem Fr.sm {x : Int × Int} {m : Nat} {c d : Int} (h : Fr (BB ^ m) c d x) (hm : m ≤ 8) (hc : c ≤ 8) (hd : d ≤ 8) : Sm x.1 ∧ Sm x.2 := by
  have e : BB ^ m ≤ BB ^ 8 := Nat.pow_le_pow_right (by decide) hm
  have e2 : 2 * BB ^ 8 < 2 ^ 2000 := by decide +kernel
  have := h.abs hc hd
  have := h.pos
  have := h.le
  unfold Sm
  exact ⟨by omega, by omega⟩
theorem c_plus {k : Nat} {h : MH} {x y : Int × Int} {m n : Nat} {c d c' d' : Int} (hx : Fr (BB ^ m) c d x) (hy : Fr (BB ^ n) c' d' y) (hm : m + n ≤ 8) (hc : 0 ≤ c ∧ 0 ≤ c' ∧ c + c' ≤ 8) (hd : 0 ≤ d ∧ 0 ≤ d' ∧ d + d' ≤ 8) :
    ∃ z, callN P (k + 3) 4 [fr x, fr y] h = .ok (fr z) h ∧ Fr (BB ^ (m + n)) (c + c') (d + d') z := by
  have z := fr_add hx hy
  rw [← Nat.pow_add] at z
  obtain ⟨s1, s2⟩ := hx.sm (by omega) (by omega) (by omega)
  obtain ⟨s3, s4⟩ := hy.sm (by omega) (by omega) (by omega)
  obtain ⟨_, s5⟩ := z.sm hm (by omega) (by omega)
  refine ⟨_, ?_, fr_red z⟩
  rw [call_eq fn_plus rfl, ← c_fraction (k := k) z.pos s5]
  simp [f_plus, b_plus, FnD.start, FnD.fill, getIx, dictOf, seqOf, L2.atI, L2.ixN, binop, s1.mul s4, s3.mul s2, s2.mul s4]
theorem c_minus {k : Nat} {h : MH} {x y : Int × Int} {m n : Nat} {c d c' d' : Int} (hx : Fr (BB ^ m) c d x) (hy : Fr (BB ^ n) c' d' y) (hm : m + n ≤ 8) (hc : 0 ≤ c ∧ 0 ≤ d' ∧ c + d' ≤ 8) (hd : 0 ≤ d ∧ 0 ≤ c' ∧ d + c' ≤ 8) :
    ∃ z, callN P (k + 3) 5 [fr x, fr y] h = .ok (fr z) h ∧ Fr (BB ^ (m + n)) (c + d') (d + c') z := by
  have z := fr_add hx (fr_neg hy)
  rw [← Nat.pow_add] at z
  obtain ⟨s1, s2⟩ := hx.sm (by omega) (by omega) (by omega)
  obtain ⟨s3, s4⟩ := (fr_neg hy).sm (by omega) (by omega) (by omega)
  have s3 : Sm y.1 := by unfold Sm at s3 ⊢; simpa using s3
  obtain ⟨_, s5⟩ := z.sm hm (by omega) (by omega)
  refine ⟨_, ?_, fr_red z⟩
  have e : x.1 * y.2 - y.1 * x.2 = x.1 * y.2 + -y.1 * x.2 := by rw [Int.neg_mul]; omega
  rw [call_eq fn_minus rfl, ← c_fraction (k := k) z.pos s5]
  simp [f_minus, b_minus, FnD.start, FnD.fill, getIx, dictOf, seqOf, L2.atI, L2.ixN, binop, s1.mul s4, s3.mul s2, s2.mul s4, e]

/-! ### the hold in the heap -/
abbrev sky : MV := .tup [fr (0, 1), fr (0, 1), fr (0, 1)]
/-- a hold of n rooms, its flows F, at 0; row i at 8 + 4 i -/
structure HoldAt (h : MH) (n : Nat) (F : Nat → Nat → Int × Int) : Prop where
  ins : h[0]? = some (.ins 8 [("most", .int 4), ("cap", .int 0), ("load", .int 0), ("my_marks", .ref 1), ("my_flows", .ref 2), ("my_skies", .ref 3), ("my_stoves", .ref 4)])
  marks : ∃ ms, h[1]? = some (.lst ms) ∧ ms.length = n
  flows : h[2]? = some (.lst ((List.range n).map fun i => .ref (8 + 4 * i)))
  skies : h[3]? = some (.lst (List.replicate n sky))
  row : ∀ i, i < n → h[8 + 4 * i]? = some (.lst ((List.range n).map fun j => fr (F i j)))
/-- flows as they may be -/
structure Good (n : Nat) (F : Nat → Nat → Int × Int) : Prop where
  n4 : 1 ≤ n ∧ n ≤ 4
  fr : ∀ i j, Fr BB 1 0 (F i j)
  diag : ∀ i, F i i = (0, 1)
theorem get_range {α : Type} {n i : Nat} {f : Nat → α} (h : i < n) : ((List.range n).map f)[i]? = some (f i) := by
  rw [List.getElem?_map, List.getElem?_range h]
  rfl
theorem atI_range {α : Type} {n i : Nat} {f : Nat → α} (h : i < n) : L2.atI ((List.range n).map f) (i : Int) = some (f i) := atI_nat (get_range h)
theorem atI_rep {α : Type} {n i : Nat} {x : α} (h : i < n) : L2.atI (List.replicate n x) (i : Int) = some x := atI_nat (by rw [List.getElem?_replicate, if_pos h])
section
variable {k : Nat} {h : MH} {n : Nat} {F : Nat → Nat → Int × Int}
theorem HoldAt.f1 (H : HoldAt h n F) : getF (.ref 0) "my_marks" h = .ok (.ref 1) h := getF_ins H.ins rfl
theorem HoldAt.f2 (H : HoldAt h n F) : getF (.ref 0) "my_flows" h = .ok (.ref 2) h := getF_ins H.ins rfl
theorem HoldAt.f3 (H : HoldAt h n F) : getF (.ref 0) "my_skies" h = .ok (.ref 3) h := getF_ins H.ins rfl
theorem c_ask_room (H : HoldAt h n F) {i : Nat} (hi : i < n) : callN P (k + 1) 10 [.ref 0, .int i] h = .ok .non h := by
  obtain ⟨ms, hm, hl⟩ := H.marks
  have h1 : ¬ ((i : Int) < 0) := by omega
  have h2 : ¬ ((ms.length : Int) ≤ (i : Int)) := by omega
  rw [call_eq fn_Hold_ask_room rfl]
  simp [f_Hold_ask_room, b_Hold_ask_room, FnD.start, FnD.fill, xT_eq, H.f1, len_lst hm, h1, h2]
theorem c_many (H : HoldAt h n F) : callN P (k + 1) 14 [.ref 0] h = .ok (.int n) h := by
  obtain ⟨ms, hm, hl⟩ := H.marks
  rw [call_eq fn_Hold_many rfl]
  simp [f_Hold_many, b_Hold_many, FnD.start, FnD.fill, H.f1, len_lst hm, hl]
/-- how much the first j flows into i weigh -/
def wt (i : Nat) : Nat → Int
  | 0 => 0
  | j + 1 => wt i j + if j = i then 0 else 1
theorem wt_le (i : Nat) (hi : i < 4) : ∀ j, j ≤ 4 → 0 ≤ wt i j ∧ wt i j ≤ 3 := by
  intro j hj
  have : i = 0 ∨ i = 1 ∨ i = 2 ∨ i = 3 := by omega
  have : j = 0 ∨ j = 1 ∨ j = 2 ∨ j = 3 ∨ j = 4 := by omega
  rcases ‹i = 0 ∨ _› with rfl | rfl | rfl | rfl <;> rcases ‹j = 0 ∨ _› with rfl | rfl | rfl | rfl | rfl <;> decide
theorem Good.at_ (g : Good n F) (i j : Nat) : Fr (BB ^ 1) (if j = i then 0 else 1) 0 (F i j) := by
  rw [Nat.pow_one]
  split
  · rename_i e
    subst e
    rw [g.diag]
    exact ⟨by decide, by decide, by decide, by decide⟩
  · exact g.fr i j
theorem c_taken (H : HoldAt h n F) (g : Good n F) {i : Nat} (hi : i < n) : ∃ z, callN P (k + 4) 11 [.ref 0, .int i] h = .ok (fr z) h ∧ Fr (BB ^ n) 3 0 z := by
  rw [call_eq fn_Hold_taken_share rfl]
  have h4 := g.n4
  have e1 : xI (cfg P (k + 3)) (.seq (.idx (.fld (.var 0) "my_flows") (.var 1))) [some (.ref 0), some (.int i), some (fr (0, 1)), none] h = .ok ((List.range n).map fun j => fr (F i j), .obj (8 + 4 * i) (.lst ((List.range n).map fun j => fr (F i j)))) h := by
    refine xI_seq ?_ (H.row i hi)
    simp [H.f2, getIx_lst H.flows (atI_range hi)]
  have main := loopF_inv (g := .obj (8 + 4 * i) (.lst ((List.range n).map fun j => fr (F i j)))) (step := fun v σ h => (match setT (.name 3) v σ with
      | some σ' => xB (cfg P (k + 3)) (.cons (.asg (.name 2) (.call 4 (.cons (.var 2) (.cons (.var 3) .nil)))) .nil) σ' h
      | none => .bad)) (fun vs σ h' => ∃ j z r, j ≤ n ∧ vs = ((List.range n).map fun j => fr (F i j)).drop j ∧ σ = [some (.ref 0), some (.int i), some (fr z), r] ∧ h' = h ∧ Fr (BB ^ j) (wt i j) 0 z)
    (fun o => ∃ z r, o = .nx [some (.ref 0), some (.int i), some (fr z), r] h ∧ Fr (BB ^ n) 3 0 z) ?_ ?_ ?_ ((List.range n).map fun j => fr (F i j)) [some (.ref 0), some (.int i), some (fr (0, 1)), none] h ⟨0, (0, 1), none, by omega, by simp, rfl, rfl, ⟨by decide, by decide, by simp [wt], by decide⟩⟩
  · obtain ⟨z, r, e, hz⟩ := main
    refine ⟨z, ?_, hz⟩
    simp only [f_Hold_taken_share, b_Hold_taken_share, FnD.start, FnD.fill]
    have e2 : xE (cfg P (k + 3)) (.idx (.idx (.fld (.var 0) "my_skies") (.var 1)) (.int 0)) [some (.ref 0), some (.int i), none, none] h = .ok (fr (0, 1)) h := by
      simp [H.f3, getIx_lst H.skies (atI_rep hi), getIx_tup (atI_cons0 _ _)]
    have e3 : xS (cfg P (k + 3)) (.loop (.name 3) (.seq (.idx (.fld (.var 0) "my_flows") (.var 1))) (.cons (.asg (.name 2) (.call 4 (.cons (.var 2) (.cons (.var 3) .nil)))) .nil)) [some (.ref 0), some (.int i), some (fr (0, 1)), none] h = .nx [some (.ref 0), some (.int i), some (fr z), r] h := by
      rw [xS_loop e1 (fun _ => by simp)]
      exact e
    simp [e2, e3]
  · rintro vs σ h' ⟨j, z, r, _, _, _, rfl, _⟩
    exact decide_eq_true (H.row i hi)
  · rintro σ h' ⟨j, z, r, hj, e, rfl, rfl, hz⟩
    have : j = n := by
      have := congrArg List.length e
      simp at this
      omega
    subst this
    exact ⟨z, r, rfl, hz.mono (Nat.le_refl _) (wt_le i (by omega) j (by omega)).2 (by omega)⟩
  · rintro v vs σ h' ⟨j, z, r, hj, e, rfl, rfl, hz⟩
    have hjn : j < n := by
      have := congrArg List.length e
      simp at this
      omega
    rw [List.drop_eq_getElem_cons (by simpa using hjn)] at e
    simp only [List.cons.injEq, List.getElem_map, List.getElem_range] at e
    obtain ⟨rfl, rfl⟩ := e
    have w1 := wt_le i (by omega) j (by omega)
    obtain ⟨z2, e2, hz2⟩ := c_plus (k := k) (h := h') hz (g.at_ i j) (by omega) ⟨by omega, by split <;> omega, by split <;> omega⟩ (by omega)
    left
    refine ⟨[some (.ref 0), some (.int i), some (fr z2), some (fr (F i j))], h', .inl ?_, j + 1, z2, some (fr (F i j)), hjn, rfl, rfl, rfl, hz2⟩
    simp [setT, e2]
theorem c_share (H : HoldAt h n F) {i j : Nat} (hi : i < n) (hj : j < n) (hij : i ≠ j) : callN P (k + 2) 16 [.ref 0, .int i, .int j] h = .ok (fr (F i j)) h := by
  rw [call_eq fn_Hold_share rfl]
  have hij' : ¬ ((i : Int) = (j : Int)) := by omega
  have m1 : xE (cfg P (k + 1)) (.meth (.var 0) "ask_room" (.cons (.var 1) .nil)) [some (.ref 0), some (.int i), some (.int j)] h = .ok .non h := by
    rw [xE_meth (h1 := h) (h2 := h) (nn := 0) (kk := 8) (f := 10) (vs := [.int i]) (by simp) H.ins rfl rfl (by simp)]
    exact c_ask_room H hi
  have m2 : xE (cfg P (k + 1)) (.meth (.var 0) "ask_room" (.cons (.var 2) .nil)) [some (.ref 0), some (.int i), some (.int j)] h = .ok .non h := by
    rw [xE_meth (h1 := h) (h2 := h) (nn := 0) (kk := 8) (f := 10) (vs := [.int j]) (by simp) H.ins rfl rfl (by simp)]
    exact c_ask_room H hj
  simp [f_Hold_share, b_Hold_share, FnD.start, FnD.fill, m1, m2, xT_eq, hij', H.f2, getIx_lst H.flows (atI_range hi), getIx_lst (H.row i hi) (atI_range hj)]
theorem c_touch (H : HoldAt h n F) (g : Good n F) {i j : Nat} (hi : i < n) (hj : j < n) (hij : i ≠ j) : callN P (k + 3) 17 [.ref 0, .int i, .int j] h = .ok (.bl (decide (0 < (F i j).1) || decide (0 < (F j i).1))) h := by
  rw [call_eq fn_is_touching rfl]
  have m1 : xE (cfg P (k + 2)) (.meth (.var 0) "share" (.cons (.var 1) (.cons (.var 2) .nil))) [some (.ref 0), some (.int i), some (.int j)] h = .ok (fr (F i j)) h := by
    rw [xE_meth (h1 := h) (h2 := h) (nn := 0) (kk := 8) (f := 16) (vs := [.int i, .int j]) (by simp) H.ins rfl rfl (by simp)]
    exact c_share H hi hj hij
  have m2 : xE (cfg P (k + 2)) (.meth (.var 0) "share" (.cons (.var 2) (.cons (.var 1) .nil))) [some (.ref 0), some (.int i), some (.int j)] h = .ok (fr (F j i)) h := by
    rw [xE_meth (h1 := h) (h2 := h) (nn := 0) (kk := 8) (f := 16) (vs := [.int j, .int i]) (by simp) H.ins rfl rfl (by simp)]
    exact c_share H hj hi (Ne.symm hij)
  obtain ⟨a1, a2⟩ := (g.at_ i j).sm (by omega) (by split <;> omega) (by omega)
  obtain ⟨b1, b2⟩ := (g.at_ j i).sm (by omega) (by split <;> omega) (by omega)
  have s0 : Sm 0 := by unfold Sm; decide +kernel
  have s1 : Sm 1 := by unfold Sm; decide +kernel
  have gl : ∀ σ h, xE (cfg P (k + 2)) (.glob 2) σ h = .ok (.tup [.int 0, .int 1]) h := fun σ h => by simp [P, consL]
  have u1 : callN P (k + 2) 6 [.tup [.int 0, .int 1], fr (F i j)] h = .ok (.bl (decide (0 < (F i j).1))) h := by
    rw [c_under s0 s1 a1 a2]; simp
  have u2 : callN P (k + 2) 6 [.tup [.int 0, .int 1], fr (F j i)] h = .ok (.bl (decide (0 < (F j i).1))) h := by
    rw [c_under s0 s1 b1 b2]; simp
  generalize decide (0 < (F i j).1) = p at u1 ⊢
  generalize decide (0 < (F j i).1) = q at u2 ⊢
  cases p <;> simp [f_is_touching, b_is_touching, FnD.start, FnD.fill, gl, m1, m2, u1, u2]
/-! ### put_flow -/
theorem c_put_flow (H : HoldAt h n F) (g : Good n F) {i j : Nat} (hi : i < n) (hj : j < n) (hij : i ≠ j) {s : Int × Int} (hs : Fr BB 1 0 s) :
    callN P (k + 5) 13 [.ref 0, .int i, .int j, fr s] h = .ok .non (h.set (8 + 4 * i) (.lst (((List.range n).map fun j => fr (F i j)).set j (fr s)))) := by
  rw [call_eq fn_Hold_put_flow rfl]
  have h4 := g.n4
  have hij' : ¬ ((i : Int) = (j : Int)) := by omega
  have m1 : ∀ r, xE (cfg P (k + 4)) (.meth (.var 0) "ask_room" (.cons (.var 1) .nil)) [some (.ref 0), some (.int i), some (.int j), some (fr s), r] h = .ok .non h := fun r => by
    rw [xE_meth (h1 := h) (h2 := h) (nn := 0) (kk := 8) (f := 10) (vs := [.int i]) (by simp) H.ins rfl rfl (by simp)]
    exact c_ask_room H hi
  have m2 : ∀ r, xE (cfg P (k + 4)) (.meth (.var 0) "ask_room" (.cons (.var 2) .nil)) [some (.ref 0), some (.int i), some (.int j), some (fr s), r] h = .ok .non h := fun r => by
    rw [xE_meth (h1 := h) (h2 := h) (nn := 0) (kk := 8) (f := 10) (vs := [.int j]) (by simp) H.ins rfl rfl (by simp)]
    exact c_ask_room H hj
  obtain ⟨z, ez, hz⟩ := c_taken (k := k) H g hi
  have m3 : ∀ r, xE (cfg P (k + 4)) (.meth (.var 0) "taken_share" (.cons (.var 1) .nil)) [some (.ref 0), some (.int i), some (.int j), some (fr s), r] h = .ok (fr z) h := fun r => by
    rw [xE_meth (h1 := h) (h2 := h) (nn := 0) (kk := 8) (f := 11) (vs := [.int i]) (by simp) H.ins rfl rfl (by simp)]
    exact ez
  have hF : Fr (BB ^ 1) 1 0 (F i j) := by rw [Nat.pow_one]; exact g.fr i j
  have hS : Fr (BB ^ 1) 1 0 s := by rw [Nat.pow_one]; exact hs
  obtain ⟨y, ey, hy⟩ := c_minus (k := k + 1) (h := h) hz hF (by omega) (by omega) (by omega)
  obtain ⟨x, ex, hx⟩ := c_plus (k := k + 1) (h := h) hy hS (by omega) (by omega) (by omega)
  have ey : callN P (k + 4) 5 [fr z, fr (F i j)] h = .ok (fr y) h := ey
  have ex : callN P (k + 4) 4 [fr y, fr s] h = .ok (fr x) h := ex
  obtain ⟨a1, a2⟩ := hS.sm (by omega) (by omega) (by omega)
  obtain ⟨b1, b2⟩ := hx.sm (by omega) (by omega) (by omega)
  have s0 : Sm 0 := by unfold Sm; decide +kernel
  have s1 : Sm 1 := by unfold Sm; decide +kernel
  have g0 : ∀ σ h, xE (cfg P (k + 4)) (.glob 0) σ h = .ok (.tup [.int 0, .int 1]) h := fun σ h => by simp [P, consL]
  have g1 : ∀ σ h, xE (cfg P (k + 4)) (.glob 1) σ h = .ok (.tup [.int 1, .int 1]) h := fun σ h => by simp [P, consL]
  have u1 : callN P (k + 4) 6 [fr s, .tup [.int 0, .int 1]] h = .ok (.bl false) h := by
    rw [c_under a1 a2 s0 s1]
    have := hS.lo
    have := hS.pos
    rw [decide_eq_false (show ¬ (s.1 * 1 < 0 * s.2) by omega)]
  have u2 : callN P (k + 4) 6 [.tup [.int 1, .int 1], fr x] h = .ok (.bl false) h := by
    rw [c_under s1 s1 b1 b2]
    have := hx.hi
    have := hx.pos
    rw [decide_eq_false (show ¬ (1 * x.2 < x.1 * 1) by omega)]
  have fl : ∀ σ : MEnv, σ[0]? = some (some (.ref 0)) → σ[1]? = some (some (.int i)) → xE (cfg P (k + 4)) (.idx (.fld (.var 0) "my_flows") (.var 1)) σ h = .ok (.ref (8 + 4 * i)) h := fun σ e1 e2 => by
    simp [e1, e2, H.f2, getIx_lst H.flows (atI_range hi)]
  have ix : L2.ixN n (j : Int) = some j := by
    unfold L2.ixN
    rw [if_pos (by omega), if_pos (by omega)]
    simp
  simp [f_Hold_put_flow, b_Hold_put_flow, FnD.start, FnD.fill, m1, m2, m3, xT_eq, hij', H.f2, getIx_lst H.flows (atI_range hi), fl, getIx_lst (H.row i hi) (atI_range hj), ey, ex, g0, g1, u1, u2, setIx, H.row i hi, ix]
theorem HoldAt.put (H : HoldAt h n F) {i j : Nat} (hi : i < n) {s : Int × Int} : HoldAt (h.set (8 + 4 * i) (.lst (((List.range n).map fun j => fr (F i j)).set j (fr s)))) n (fun a b => if a = i ∧ b = j then s else F a b) := by
  refine ⟨?_, ?_, ?_, ?_, fun a ha => ?_⟩
  · rw [List.getElem?_set_ne (by omega)]; exact H.ins
  · obtain ⟨ms, h1, h2⟩ := H.marks
    exact ⟨ms, by rw [List.getElem?_set_ne (by omega)]; exact h1, h2⟩
  · rw [List.getElem?_set_ne (by omega)]; exact H.flows
  · rw [List.getElem?_set_ne (by omega)]; exact H.skies
  · by_cases e : a = i
    · subst e
      have hl : 8 + 4 * a < h.length := (List.getElem?_eq_some_iff.mp (H.row a hi)).1
      rw [List.getElem?_set_self hl]
      congr 2
      apply List.ext_getElem?
      intro q
      by_cases hq : q < n
      · rw [List.getElem?_map, List.getElem?_range hq, List.getElem?_set]
        by_cases hqj : j = q
        · subst hqj
          simp [hq]
        · have : ¬ q = j := fun z => hqj z.symm
          simp [hqj, this, List.getElem?_range hq]
      · rw [List.getElem?_eq_none (by simp; omega), List.getElem?_eq_none (by simp; omega)]
    · rw [List.getElem?_set_ne (by omega), H.row a ha]
      simp [e]
end
end K69
namespace K69
open PySem Mi

/-! ### the program's parts, plainly -/
def okp (n : Nat) (x y : Int) : Bool := decide (0 ≤ x) && decide (x < n) && decide (0 ≤ y) && decide (y < n) && decide (x ≠ y)
def pbFor (t : Int → Int → Bool) (n : Nat) (x : Int) : List Int → List Int → List Int → Option (List Int × List Int)
  | [], p, l => some (p, l)
  | y :: ys, p, l => if okp n x y = true then (if t x y = true then (if y ∈ l ∧ p.length < 100 then pbFor t n x ys (p ++ [y]) (l.eraseIdx (l.idxOf y)) else none) else pbFor t n x ys p l) else none
def pbWh (t : Int → Int → Bool) (n : Nat) : Nat → List Int → List Int → Nat → Option (List Int × List Int)
  | 0, _, _, _ => none
  | f + 1, p, l, a => match p[a]? with
    | none => some (p, l)
    | some x => (pbFor t n x l p l).bind fun q => pbWh t n f q.1 q.2 (a + 1)
def psWh (t : Int → Int → Bool) (n : Nat) : Nat → List Int → List (List Int) → Option (List (List Int))
  | 0, _, _ => none
  | f + 1, [], acc => some acc
  | f + 1, x :: l, acc => if acc.length < 100 then (pbWh t n 8 [x] l 0).bind fun q => psWh t n f q.2 (acc ++ [sortI q.1]) else none
theorem get_push {h : MH} {a : Nat} {u : MO} {o : MO} (e : h[a]? = some o) : (h ++ [u])[a]? = some o := by
  have hl := (List.getElem?_eq_some_iff.mp e).1
  rw [List.getElem?_append_left hl]
  exact e
theorem get_new {h : MH} {u : MO} : (h ++ [u])[h.length]? = some u := by simp
theorem lt_of {h : MH} {a : Nat} {o : MO} (e : h[a]? = some o) : a < h.length := (List.getElem?_eq_some_iff.mp e).1
/-- all but what is at ex is kept -/
structure Kp (ex : Nat) (h h' : MH) : Prop where
  le : h.length ≤ h'.length
  at_ : ∀ a, a < h.length → a ≠ ex → h'[a]? = h[a]?
theorem Kp.refl {ex : Nat} {h : MH} : Kp ex h h := ⟨Nat.le_refl _, fun _ _ _ => rfl⟩
theorem Kp.push {ex : Nat} {h h' : MH} {u : MO} (k : Kp ex h h') : Kp ex h (h' ++ [u]) := by
  refine ⟨by have := k.le; simp; omega, fun a ha hne => ?_⟩
  have := k.le
  rw [List.getElem?_append_left (by omega)]
  exact k.at_ a ha hne
theorem Kp.set {ex b : Nat} {h h' : MH} {u : MO} (k : Kp ex h h') (hb : b = ex ∨ h.length ≤ b) : Kp ex h (h'.set b u) := by
  refine ⟨by have := k.le; simpa using this, fun a ha hne => ?_⟩
  rw [List.getElem?_set_ne (by omega)]
  exact k.at_ a ha hne
theorem Kp.trans {ex : Nat} {h h1 h2 : MH} (a : Kp ex h h1) (b : Kp ex h1 h2) : Kp ex h h2 :=
  ⟨Nat.le_trans a.le b.le, fun x hx hne => by have := a.le; rw [b.at_ x (by omega) hne, a.at_ x hx hne]⟩
/-- .. where ex is new -/
theorem Kp.new {ex ex' : Nat} {h h1 : MH} (a : Kp ex h h1) (hx : h.length ≤ ex) : Kp ex' h h1 := ⟨a.le, fun x hl _ => a.at_ x hl (by omega)⟩
theorem Kp.get {ex a : Nat} {h h' : MH} {o : MO} (k : Kp ex h h') (e : h[a]? = some o) (hne : a ≠ ex) : h'[a]? = some o := by rw [k.at_ a (lt_of e) hne]; exact e
section
variable {n : Nat} {F : Nat → Nat → Int × Int} {t : Int → Int → Bool}
theorem HoldAt.kp {ex : Nat} {h h' : MH} (H : HoldAt h n F) (k : Kp ex h h') (hx : 5 + 4 * n ≤ ex) : HoldAt h' n F := by
  obtain ⟨ms, h1, h2⟩ := H.marks
  exact ⟨k.get H.ins (by omega), ⟨ms, k.get h1 (by omega), h2⟩, k.get H.flows (by omega), k.get H.skies (by omega), fun i hi => k.get (H.row i hi) (by omega)⟩
/-- t is the hold's touching -/
def Tou (n : Nat) (F : Nat → Nat → Int × Int) (t : Int → Int → Bool) : Prop := ∀ i j : Nat, i < n → j < n → i ≠ j → t i j = (decide (0 < (F i j).1) || decide (0 < (F j i).1))
theorem c_touch' {k : Nat} {h : MH} (H : HoldAt h n F) (g : Good n F) (T : Tou n F t) {x y : Int} (hxy : okp n x y = true) : callN P (k + 3) 17 [.ref 0, .int x, .int y] h = .ok (.bl (t x y)) h := by
  simp only [okp, Bool.and_eq_true, decide_eq_true_eq] at hxy
  obtain ⟨⟨⟨⟨h1, h2⟩, h3⟩, h4⟩, h5⟩ := hxy
  obtain ⟨i, rfl⟩ := Int.eq_ofNat_of_zero_le h1
  obtain ⟨j, rfl⟩ := Int.eq_ofNat_of_zero_le h3
  rw [T i j (by omega) (by omega) (by omega)]
  exact c_touch H g (by omega) (by omega) (by omega)
noncomputable abbrev pbStep (k : Nat) : MV → MEnv → MH → Out := fun v σ h => (match setT (.name 5) v σ with
      | some σ' => xB (cfg P k) (.cons (.ite (.call 17 (.cons (.var 0) (.cons (.idx (.var 3) (.var 4)) (.cons (.var 5) .nil))))
 (.cons (.expr (.bm .append (.var 3) (.cons (.var 5) .nil)))
 (.cons (.expr (.bm .remove (.var 2) (.cons (.var 5) .nil)))
 .nil))
 .nil)
 .nil) σ' h
      | none => .bad)
/-- part_by's turn -/
theorem pb_for {k : Nat} {h0 : MH} {lf p c a : Nat} {fi x : Int} {cs : List MV} (H : HoldAt h0 n F) (g : Good n F) (T : Tou n F t) (hlf : 5 + 4 * n ≤ lf) (hp : h0.length ≤ p) (hpl : p ≠ lf) (hcp : c ≠ p) (hcl : c ≠ lf) :
    ∀ (ys P0 L0 P1 L1 : List Int) (h : MH) (r : Option MV), Kp lf h0 h → h[p]? = some (.lst (iL P0)) → h[lf]? = some (.lst (iL L0)) → h[c]? = some (.lst cs) → P0[a]? = some x → pbFor t n x ys P0 L0 = some (P1, L1) →
      ∃ h' r', loopF (.obj c (.lst cs)) (pbStep (k + 3)) (iL ys) [some (.ref 0), some (.int fi), some (.ref lf), some (.ref p), some (.int a), r] h = .nx [some (.ref 0), some (.int fi), some (.ref lf), some (.ref p), some (.int a), r'] h' ∧
        Kp lf h0 h' ∧ h'[p]? = some (.lst (iL P1)) ∧ h'[lf]? = some (.lst (iL L1))
  | [], P0, L0, P1, L1, h, r, K, e1, e2, e3, e4, e => by
    simp only [pbFor] at e
    cases e
    exact ⟨h, r, by simp [loopF, Gd.ok, e3], K, e1, e2⟩
  | y :: ys, P0, L0, P1, L1, h, r, K, e1, e2, e3, e4, e => by
    simp only [pbFor] at e
    split at e
    · rename_i hok
      have ct := c_touch' (k := k) (H.kp K hlf) g T hok
      have ei : getIx (.ref p) (.int a) h = .ok (.int x) h := getIx_lst e1 (atI_nat (by rw [iL_get, e4]; rfl))
      split at e
      · rename_i ht
        split at e
        · rename_i hy
          have b1 : xE (cfg P (k + 3)) (.bm .append (.var 3) (.cons (.var 5) .nil)) [some (.ref 0), some (.int fi), some (.ref lf), some (.ref p), some (.int a), some (.int y)] h = .ok .non (h.set p (.lst (iL (P0 ++ [y])))) := by
            rw [xE_bm (h1 := h) (h2 := h) (v := .ref p) (vs := [.int y]) (k := 0) (by simp) (kind_lst e1) rfl (by simp) (kind_lst e1), append_lst e1 (by rw [iL_length, sizeLine_eq]; omega), iL_snoc]
          have e2' : (h.set p (.lst (iL (P0 ++ [y]))))[lf]? = some (.lst (iL L0)) := by rw [List.getElem?_set_ne hpl]; exact e2
          have b2 : xE (cfg P (k + 3)) (.bm .remove (.var 2) (.cons (.var 5) .nil)) [some (.ref 0), some (.int fi), some (.ref lf), some (.ref p), some (.int a), some (.int y)] (h.set p (.lst (iL (P0 ++ [y])))) = .ok .non ((h.set p (.lst (iL (P0 ++ [y])))).set lf (.lst (iL (L0.eraseIdx (L0.idxOf y))))) := by
            rw [xE_bm (h1 := h.set p (.lst (iL (P0 ++ [y])))) (h2 := h.set p (.lst (iL (P0 ++ [y])))) (v := .ref lf) (vs := [.int y]) (k := 0) (by simp) (kind_lst e2') rfl (by simp) (kind_lst e2'), remove_iL e2' hy.1]
          have hpL : p < h.length := lt_of e1
          have hlL : lf < h.length := lt_of e2
          obtain ⟨h', r', q1, q2⟩ := pb_for (k := k) (fi := fi) H g T hlf hp hpl hcp hcl ys (P0 ++ [y]) (L0.eraseIdx (L0.idxOf y)) P1 L1 ((h.set p (.lst (iL (P0 ++ [y])))).set lf (.lst (iL (L0.eraseIdx (L0.idxOf y))))) (some (.int y)) ((K.set (.inr hp)).set (.inl rfl))
            (by rw [List.getElem?_set_ne (Ne.symm hpl), List.getElem?_set_self hpL]) (by rw [List.getElem?_set_self (by simpa using hlL)]) (by rw [List.getElem?_set_ne (Ne.symm hcl), List.getElem?_set_ne (Ne.symm hcp)]; exact e3)
            (by rw [List.getElem?_append_left (List.getElem?_eq_some_iff.mp e4).1]; exact e4) e
          refine ⟨h', r', ?_, q2⟩
          have st : pbStep (k + 3) (.int y) [some (.ref 0), some (.int fi), some (.ref lf), some (.ref p), some (.int a), r] h = .nx [some (.ref 0), some (.int fi), some (.ref lf), some (.ref p), some (.int a), some (.int y)] ((h.set p (.lst (iL (P0 ++ [y])))).set lf (.lst (iL (L0.eraseIdx (L0.idxOf y))))) := by
            simp [pbStep, setT, xT_eq, ei, ct, ht, b1, b2]
          have gk : (Gd.obj c (.lst cs)).ok h = true := decide_eq_true e3
          show loopF _ _ (.int y :: iL ys) _ _ = _
          simp only [loopF, gk, if_true, st]
          exact q1
        · cases e
      · rename_i ht
        obtain ⟨h', r', q1, q2⟩ := pb_for (k := k) (fi := fi) H g T hlf hp hpl hcp hcl ys P0 L0 P1 L1 h (some (.int y)) K e1 e2 e3 e4 e
        refine ⟨h', r', ?_, q2⟩
        have st : pbStep (k + 3) (.int y) [some (.ref 0), some (.int fi), some (.ref lf), some (.ref p), some (.int a), r] h = .nx [some (.ref 0), some (.int fi), some (.ref lf), some (.ref p), some (.int a), some (.int y)] h := by
          simp [pbStep, setT, xT_eq, ei, ct, ht]
        have gk : (Gd.obj c (.lst cs)).ok h = true := decide_eq_true e3
        show loopF _ _ (.int y :: iL ys) _ _ = _
        simp only [loopF, gk, if_true, st]
        exact q1
    · cases e
abbrev pbC : ME := .cmp .Lt (.var 4) (.bf .len (.cons (.var 3) .nil))
abbrev pbL : MS := .loop (.name 5) (.seq (.bf .list (.cons (.var 2) .nil)))
 (.cons (.ite (.call 17 (.cons (.var 0) (.cons (.idx (.var 3) (.var 4)) (.cons (.var 5) .nil))))
 (.cons (.expr (.bm .append (.var 3) (.cons (.var 5) .nil)))
 (.cons (.expr (.bm .remove (.var 2) (.cons (.var 5) .nil)))
 .nil))
 .nil)
 .nil)
abbrev pbB : MSs := .cons pbL
 (.cons (.asg (.name 4) (.bin .Add (.var 4) (.int 1)))
 .nil)
theorem pb_wh {k : Nat} {h0 : MH} {lf p : Nat} {fi : Int} (H : HoldAt h0 n F) (g : Good n F) (T : Tou n F t) (hlf : 5 + 4 * n ≤ lf) (hp : h0.length ≤ p) (hpl : p ≠ lf) :
    ∀ (f : Nat) (P0 L0 P1 L1 : List Int) (a : Nat) (h : MH) (r : Option MV), Kp lf h0 h → h[p]? = some (.lst (iL P0)) → h[lf]? = some (.lst (iL L0)) → pbWh t n f P0 L0 a = some (P1, L1) →
      ∃ h' a' r', Wh (xT (cfg P (k + 3)) pbC) (xB (cfg P (k + 3)) pbB) [some (.ref 0), some (.int fi), some (.ref lf), some (.ref p), some (.int a), r] h (.nx [some (.ref 0), some (.int fi), some (.ref lf), some (.ref p), a', r'] h') ∧
        Kp lf h0 h' ∧ h'[p]? = some (.lst (iL P1)) ∧ h'[lf]? = some (.lst (iL L1))
  | 0, P0, L0, P1, L1, a, h, r, K, e1, e2, e => by simp [pbWh] at e
  | f + 1, P0, L0, P1, L1, a, h, r, K, e1, e2, e => by
    simp only [pbWh] at e
    cases ea : P0[a]? with
    | none =>
      simp only [ea] at e
      cases e
      have hl : P0.length ≤ a := List.getElem?_eq_none_iff.mp ea
      refine ⟨h, some (.int a), r, .no ?_, K, e1, e2⟩
      have : ¬ ((a : Int) < (P0.length : Int)) := by omega
      simp [xT_eq, len_lst e1, this]
    | some x =>
      simp only [ea] at e
      have hl : a < P0.length := (List.getElem?_eq_some_iff.mp ea).1
      have hc : xT (cfg P (k + 3)) pbC [some (.ref 0), some (.int fi), some (.ref lf), some (.ref p), some (.int a), r] h = .ok true h := by
        have : ((a : Int) < (P0.length : Int)) := by omega
        simp [xT_eq, len_lst e1, this]
      cases eq : pbFor t n x L0 P0 L0 with
      | none => rw [eq] at e; cases e
      | some q =>
        rw [eq] at e
        obtain ⟨P2, L2⟩ := q
        have e : pbWh t n f P2 L2 (a + 1) = some (P1, L1) := e
        have hpL : p < h.length := lt_of e1
        have hlL : lf < h.length := lt_of e2
        obtain ⟨h2, r2, q1, q2, q3, q4⟩ := pb_for (k := k) (fi := fi) (c := h.length) (cs := iL L0) H g T hlf hp hpl (by omega) (by omega) L0 P0 L0 P2 L2 (h ++ [.lst (iL L0)]) r K.push (get_push e1) (get_push e2) get_new ea eq
        obtain ⟨h3, a3, r3, w, z⟩ := pb_wh H g T hlf hp hpl f P2 L2 P1 L1 (a + 1) h2 r2 q2 q3 q4 e
        refine ⟨h3, a3, r3, .nx hc ?_ w, z⟩
        have ei : xI (cfg P (k + 3)) (.seq (.bf .list (.cons (.var 2) .nil))) [some (.ref 0), some (.int fi), some (.ref lf), some (.ref p), some (.int a), r] h = .ok (iL L0, .obj h.length (.lst (iL L0))) (h ++ [.lst (iL L0)]) := by
          refine xI_seq (n := h.length) ?_ get_new
          simp [list_lst e2]
        have el : xS (cfg P (k + 3)) pbL [some (.ref 0), some (.int fi), some (.ref lf), some (.ref p), some (.int a), r] h = .nx [some (.ref 0), some (.int fi), some (.ref lf), some (.ref p), some (.int a), r2] h2 := by
          rw [xS_loop ei (fun _ => by simp)]
          exact q1
        have ec : ((a : Int) + 1) = ((a + 1 : Nat) : Int) := by omega
        rw [xB_cons, el, seq_nx]
        simp
theorem c_part_by {k : Nat} {h : MH} {lf : Nat} {x : Int} {L0 P1 L1 : List Int} (H : HoldAt h n F) (g : Good n F) (T : Tou n F t) (hlf : 5 + 4 * n ≤ lf) (e2 : h[lf]? = some (.lst (iL L0))) (e : pbWh t n 8 [x] L0 0 = some (P1, L1)) :
    ∃ h' r, callN P (k + 4) 18 [.ref 0, .int x, .ref lf] h = .ok (.ref r) h' ∧ Kp lf h h' ∧ h.length ≤ r ∧ h'[r]? = some (.lst (iL (sortI P1))) ∧ h'[lf]? = some (.lst (iL L1)) ∧ h'.length = r + 1 := by
  have hlL : lf < h.length := lt_of e2
  obtain ⟨h', a', r', w, K, q1, q2⟩ := pb_wh (k := k) (fi := x) (p := h.length) H g T hlf (Nat.le_refl _) (by omega) 8 [x] L0 P1 L1 0 (h ++ [.lst (iL [x])]) none Kp.refl.push get_new (get_push e2) e
  refine ⟨h' ++ [.lst (iL (sortI P1))], h'.length, ?_, K.push, by have := K.le; omega, get_new, get_push q2, by simp⟩
  rw [call_eq fn_part_by rfl]
  have ew : xS (cfg P (k + 3)) (.wh pbC pbB) [some (.ref 0), some (.int x), some (.ref lf), some (.ref h.length), some (.int 0), none] (h ++ [.lst [.int x]]) = .nx [some (.ref 0), some (.int x), some (.ref lf), some (.ref h.length), a', r'] h' := by
    rw [xS_wh]
    exact whF_of w
  simp only [f_part_by, b_part_by]
  show (xB (cfg P (k + 3)) (.cons (.asg (.name 3) (.lst (.cons (.var 1) .nil))) (.cons (.asg (.name 4) (.int 0)) (.cons (.wh pbC pbB) (.cons (.ret (.bf .sorted (.cons (.var 3) .nil))) .nil)))) [some (.ref 0), some (.int x), some (.ref lf), none, none, none] h).fin = _
  simp [-xS_wh, ew, sorted_iL q1]
end
/-- lists of ints at rs -/
def LL (h : MH) : List Nat → List (List Int) → Prop
  | [], [] => True
  | r :: rs, xs :: xss => h[r]? = some (.lst (iL xs)) ∧ LL h rs xss
  | _, _ => False
theorem LL.snoc {h : MH} : ∀ {rs : List Nat} {xss : List (List Int)} {r : Nat} {xs : List Int}, LL h rs xss → h[r]? = some (.lst (iL xs)) → LL h (rs ++ [r]) (xss ++ [xs])
  | [], [], _, _, _, e => ⟨e, trivial⟩
  | _ :: _, _ :: _, _, _, l, e => ⟨l.1, l.2.snoc e⟩
  | [], _ :: _, _, _, l, _ => l.elim
  | _ :: _, [], _, _, l, _ => l.elim
theorem LL.imp {h h' : MH} : ∀ {rs : List Nat} {xss : List (List Int)}, LL h rs xss → (∀ r ∈ rs, ∀ o, h[r]? = some o → h'[r]? = some o) → LL h' rs xss
  | [], [], _, _ => trivial
  | r :: _, _ :: _, l, f => ⟨f r (List.mem_cons_self ..) _ l.1, l.2.imp fun a ha => f a (List.mem_cons_of_mem _ ha)⟩
  | [], _ :: _, l, _ => l.elim
  | _ :: _, [], l, _ => l.elim
theorem LL.len {h : MH} : ∀ {rs : List Nat} {xss : List (List Int)}, LL h rs xss → rs.length = xss.length
  | [], [], _ => rfl
  | _ :: _, _ :: _, l => by simp [l.2.len]
  | [], _ :: _, l => l.elim
  | _ :: _, [], l => l.elim
section
variable {n : Nat} {F : Nat → Nat → Int × Int} {t : Int → Int → Bool}
abbrev psB : MSs := (.cons (.asg (.name 3) (.bm .popAt (.var 1) (.cons (.int 0) .nil)))
 (.cons (.expr (.bm .append (.var 2) (.cons (.call 18 (.cons (.var 0) (.cons (.var 3) (.cons (.var 1) .nil)))) .nil)))
 .nil))
def rfs (rs : List Nat) : List MV := rs.map MV.ref
theorem rfs_snoc (rs : List Nat) (r : Nat) : rfs rs ++ [.ref r] = rfs (rs ++ [r]) := by simp [rfs]
@[simp] theorem rfs_length (rs : List Nat) : (rfs rs).length = rs.length := by simp [rfs]
theorem ps_wh {k : Nat} {h0 : MH} {lf fd : Nat} (H : HoldAt h0 n F) (g : Good n F) (T : Tou n F t) (hlf : 5 + 4 * n ≤ lf) (hl0 : h0.length ≤ lf) (hfd : h0.length ≤ fd) (hne : fd ≠ lf) :
    ∀ (f : Nat) (L0 : List Int) (acc out : List (List Int)) (rs : List Nat) (h : MH) (r : Option MV), Kp lf h0 h → h[lf]? = some (.lst (iL L0)) → h[fd]? = some (.lst (rfs rs)) → LL h rs acc → (∀ r ∈ rs, h0.length ≤ r ∧ r ≠ lf ∧ r ≠ fd) → psWh t n f L0 acc = some out →
      ∃ h' rs' r', Wh (xT (cfg P (k + 4)) (.var 1)) (xB (cfg P (k + 4)) psB) [some (.ref 0), some (.ref lf), some (.ref fd), r] h (.nx [some (.ref 0), some (.ref lf), some (.ref fd), r'] h') ∧ Kp lf h0 h' ∧ h'[fd]? = some (.lst (rfs rs')) ∧ LL h' rs' out ∧ (∀ r ∈ rs', h0.length ≤ r ∧ r ≠ lf ∧ r ≠ fd)
  | 0, L0, acc, out, rs, h, r, K, e1, e2, l, hr, e => by simp [psWh] at e
  | f + 1, [], acc, out, rs, h, r, K, e1, e2, l, hr, e => by
    simp only [psWh] at e
    cases e
    exact ⟨h, rs, r, .no (by simp [xT_eq, truth_lst e1]), K, e2, l, hr⟩
  | f + 1, x :: L0, acc, out, rs, h, r, K, e1, e2, l, hr, e => by
    simp only [psWh] at e
    split at e
    · rename_i hz
      cases eq : pbWh t n 8 [x] L0 0 with
      | none => rw [eq] at e; cases e
      | some q =>
        rw [eq] at e
        obtain ⟨P1, L1⟩ := q
        have e : psWh t n f L1 (acc ++ [sortI P1]) = some out := e
        have hlL := lt_of e1
        have hfL := lt_of e2
        have K1 : Kp lf h0 (h.set lf (.lst (iL L0))) := K.set (.inl rfl)
        obtain ⟨h2, r2, c1, c2, c3, c4, c5, c6⟩ := c_part_by (k := k) (x := x) (lf := lf) (L0 := L0) (H.kp K1 hlf) g T hlf (by rw [List.getElem?_set_self hlL]) eq
        have e2' : h2[fd]? = some (.lst (rfs rs)) := c2.get (by rw [List.getElem?_set_ne (Ne.symm hne)]; exact e2) hne
        have hlen : (h.set lf (.lst (iL L0))).length = h.length := by simp
        have hr2 : h.length ≤ r2 := by omega
        have hfd2 : fd < h2.length := lt_of e2'
        obtain ⟨h3, rs3, r3, w, z⟩ := ps_wh H g T hlf hl0 hfd hne f L1 (acc ++ [sortI P1]) out (rs ++ [r2]) (h2.set fd (.lst (rfs (rs ++ [r2])))) (some (.int x)) ((K1.trans c2).set (.inr hfd)) (by rw [List.getElem?_set_ne hne]; exact c5) (by rw [List.getElem?_set_self hfd2]) (by
          refine LL.snoc (l.imp fun a ha o ho => ?_) (by rw [List.getElem?_set_ne (by omega)]; exact c4)
          obtain ⟨a1, a2, a3⟩ := hr a ha
          rw [List.getElem?_set_ne (Ne.symm a3)]
          exact c2.get (by rw [List.getElem?_set_ne (Ne.symm a2)]; exact ho) a2) (by
          intro a ha
          rcases List.mem_append.mp ha with ha | ha
          · exact hr a ha
          · have : a = r2 := by simpa using ha
            subst this
            have := K.le
            exact ⟨by omega, by omega, by omega⟩) e
        refine ⟨h3, rs3, r3, .nx (by simp [xT_eq, truth_lst e1]; rfl) ?_ w, z⟩
        have b1 : xE (cfg P (k + 4)) (.bm .popAt (.var 1) (.cons (.int 0) .nil)) [some (.ref 0), some (.ref lf), some (.ref fd), r] h = .ok (.int x) (h.set lf (.lst (iL L0))) := by
          rw [xE_bm (h1 := h) (h2 := h) (v := .ref lf) (vs := [.int 0]) (k := 0) (by simp) (kind_lst e1) rfl (by simp) (kind_lst e1), pop0_iL e1]
        have b2 : xE (cfg P (k + 4)) (.bm .append (.var 2) (.cons (.call 18 (.cons (.var 0) (.cons (.var 3) (.cons (.var 1) .nil)))) .nil)) [some (.ref 0), some (.ref lf), some (.ref fd), some (.int x)] (h.set lf (.lst (iL L0))) = .ok .non (h2.set fd (.lst (rfs (rs ++ [r2])))) := by
          rw [xE_bm (h1 := h.set lf (.lst (iL L0))) (h2 := h2) (v := .ref fd) (vs := [.ref r2]) (k := 0) (by simp) (kind_lst (vs := rfs rs) (by rw [List.getElem?_set_ne (Ne.symm hne)]; exact e2)) rfl (by simp [c1]) (kind_lst e2'), append_lst e2' (by rw [rfs_length, l.len, sizeLine_eq]; omega), rfs_snoc]
        simp [b1, b2]
    · cases e
/-- the ints 0 .. n - 1 -/
def upto (n : Nat) : List Int := (List.range n).map fun (i : Nat) => (i : Int)
theorem rng_upto (n : Nat) : rangeV 0 n = iL (upto n) := by
  unfold rangeV iL upto
  rw [List.map_map]
  apply List.map_congr_left
  intro a _
  simp
theorem upto_len (n : Nat) : (upto n).length = n := by simp [upto]
theorem rng_lo {n : Nat} (h : n ≤ 4) : -(2 ^ 62 : Int) ≤ (n : Int) := by omega
theorem rng_hi {n : Nat} (h : n ≤ 4) : (n : Int) < 2 ^ 62 := Int.lt_of_le_of_lt (show (n : Int) ≤ 4 by omega) (by decide)
theorem rng_ok0 {n : Nat} (h : n ≤ 4) : rngOf [.int (n : Int)] = some (rangeV 0 n) := by
  have h1 := rng_lo h
  have h2 := rng_hi h
  simp only [rngOf, h1, h2, and_self, if_true, Int.toNat_natCast]
theorem rng_ok {n : Nat} (h : n ≤ 4) : rngOf [.int (n : Int)] = some (iL (upto n)) := by rw [rng_ok0 h, rng_upto]
theorem lrng_ok {h : MH} {n : Nat} (hn : n ≤ 4) : bfn .listRange [.int n] h = .ok (.ref h.length) (h ++ [.lst (iL (upto n))]) :=
  lrng_of (rng_ok hn) (by rw [iL_length, upto_len, sizeLine_eq]; omega)
theorem c_parts_of {k : Nat} {h : MH} (H : HoldAt h n F) (g : Good n F) (T : Tou n F t) (hl : 5 + 4 * n ≤ h.length) {out : List (List Int)} (e : psWh t n 8 (upto n) [] = some out) :
    ∃ h' fd rs, callN P (k + 5) 19 [.ref 0] h = .ok (.ref fd) h' ∧ (∀ a, a < h.length → h'[a]? = h[a]?) ∧ h.length ≤ h'.length ∧ h.length ≤ fd ∧ h'[fd]? = some (.lst (rfs rs)) ∧ LL h' rs out ∧ ∀ r ∈ rs, h.length ≤ r ∧ r ≠ fd := by
  have n4 := g.n4
  obtain ⟨h', rs, r', w, K, q1, q2, q3⟩ := ps_wh (k := k) (h0 := h) (lf := h.length) (fd := h.length + 1) H g T hl (Nat.le_refl _) (by omega) (by omega) 8 (upto n) [] out [] (h ++ [.lst (iL (upto n))] ++ [.lst (rfs [])]) none Kp.refl.push.push (get_push get_new) (by simp [rfs]) trivial (by simp) e
  refine ⟨h', h.length + 1, rs, ?_, fun a ha => K.at_ a ha (by omega), K.le, by omega, q1, q2, fun r hr => ⟨(q3 r hr).1, (q3 r hr).2.2⟩⟩
  rw [call_eq fn_parts_of rfl]
  have m1 : xE (cfg P (k + 4)) (.meth (.var 0) "many" .nil) [some (.ref 0), none, none, none] h = .ok (.int n) h := by
    rw [xE_meth (h1 := h) (h2 := h) (nn := 0) (kk := 8) (f := 14) (vs := []) (by simp) H.ins rfl rfl (by simp)]
    exact c_many H
  have m2 := lrng_ok (h := h) (n := n) (by omega)
  have ew : xS (cfg P (k + 4)) (.wh (.var 1) psB) [some (.ref 0), some (.ref h.length), some (.ref (h.length + 1)), none] (h ++ [.lst (iL (upto n))] ++ [.lst []]) = .nx [some (.ref 0), some (.ref h.length), some (.ref (h.length + 1)), r'] h' := by
    rw [xS_wh]
    exact whF_of w
  simp only [f_parts_of, b_parts_of]
  show (xB (cfg P (k + 4)) (.cons (.asg (.name 1) (.bf .listRange (.cons (.meth (.var 0) "many" .nil) .nil))) (.cons (.asg (.name 2) (.lst .nil)) (.cons (.wh (.var 1) psB) (.cons (.ret (.var 2)) .nil)))) [some (.ref 0), none, none, none] h).fin = _
  simp [-xS_wh, m1, m2]
  simp only [List.append_assoc] at ew
  simp [-xS_wh] at ew
  simp [-xS_wh, ew]
end
end K69
namespace K69
open PySem Mi
/-! ### the law's parts, plainly -/
def lpMore (t : Int → Int → Bool) (n : Nat) (p l : List Int) : Option (List Int) :=
  if (l.all fun j => decide (j ∈ p) || p.all fun i => okp n i j) = true then some (l.filter fun j => !decide (j ∈ p) && !decide (p.filter (fun i => t i j) = [])) else none
def lpGrow (t : Int → Int → Bool) (n : Nat) : Nat → List Int → List Int → Option (List Int)
  | 0, _, _ => none
  | f + 1, p, l => (lpMore t n p l).bind fun m => if p.length + m.length ≤ 50 then (if m = [] then some (p ++ m) else lpGrow t n f (p ++ m) l) else none
def lpWh (t : Int → Int → Bool) (n : Nat) : Nat → List Int → List (List Int) → Option (List (List Int))
  | 0, _, _ => none
  | f + 1, [], acc => some acc
  | f + 1, x :: l, acc => (lpGrow t n 6 [x] (x :: l)).bind fun p => if acc.length < 50 ∧ l.length < 50 then lpWh t n f ((x :: l).filter fun j => !decide (j ∈ p)) (acc ++ [sortI p]) else none
/-- the dict of takes -/
structure Tak (n : Nat) (t : Int → Int → Bool) (kvs : List (MV × MV)) : Prop where
  tup : kvs.all (fun p => isTup p.1) = true
  is_ : ∀ x y, okp n x y = true → ((dget kvs (.tup [.int x, .int y])).isSome || (dget kvs (.tup [.int y, .int x])).isSome) = t x y
theorem fits {kvs : List (MV × MV)} (h : kvs.all (fun p => isTup p.1) = true) (x y : Int) : keyFits kvs (.tup [.int x, .int y]) = true := by
  unfold keyFits
  have e : okKey (.tup [.int x, .int y]) = true := rfl
  rw [e, Bool.true_and, List.all_eq_true]
  rw [List.all_eq_true] at h
  intro p hp
  have := h p hp
  rw [this]
  rfl
theorem in_tak {h : MH} {d : Nat} {kvs : List (MV × MV)} (e : h[d]? = some (.dic false kvs)) (ht : kvs.all (fun p => isTup p.1) = true) (x y : Int) : cmpop .In (.tup [.int x, .int y]) (.ref d) h = .ok (.bl (dget kvs (.tup [.int x, .int y])).isSome) h := by
  have hd : dictOf h (.ref d) = some kvs := by simp [dictOf, e]
  unfold cmpop inOp
  simp only [hd, fits ht, if_true]
section
variable {n : Nat} {t : Int → Int → Bool} {kvs : List (MV × MV)} {k : Nat}
abbrev grC : ME := .var 5
abbrev inE : ME := .lc (.var 8) [8] (.name 8) (.seq (.var 4)) (.some (.or (.cmp .In (.tup (.cons (.var 8) (.cons (.var 7) .nil))) (.var 1)) (.cmp .In (.tup (.cons (.var 7) (.cons (.var 8) .nil))) (.var 1))))
abbrev moE : ME := .lc (.var 7) [7] (.name 7) (.seq (.var 2)) (.some (.and (.cmp .NotIn (.var 7) (.var 4)) (.cmp .NotEq inE (.lst .nil))))
abbrev grB : MSs := .cons (.asg (.name 6) moE) (.cons (.asg (.name 4) (.bin .Add (.var 4) (.var 6))) (.cons (.asg (.name 5) (.cmp .NotEq (.var 6) (.lst .nil))) .nil))
/-- the takers of j within the part -/
theorem c_in {h : MH} {d p : Nat} {Q : List Int} {j : Int} {a0 a2 a3 a5 a6 a8 : Option MV} (T : Tak n t kvs) (ed : h[d]? = some (.dic false kvs)) (ep : h[p]? = some (.lst (iL Q))) (hP : Q.length ≤ 100) (hok : ∀ i ∈ Q, okp n i j = true) :
    ∃ h', xE (cfg P k) inE [a0, some (.ref d), a2, a3, some (.ref p), a5, a6, some (.int j), a8] h = .ok (.ref h.length) h' ∧ Ex h h' ∧ h'[h.length]? = some (.lst (iL (Q.filter fun i => t i j))) := by
  refine lc_filter (h1 := h) (nl := p) (by simp) (by simp) ep hP fun i hi h2 X => ?_
  refine ⟨h2, ?_, Ex.refl⟩
  have e1 := in_tak (X.get ed) T.tup i j
  have e2 := in_tak (X.get ed) T.tup j i
  have e3 := T.is_ i j (hok i hi)
  rw [← e3]
  generalize (dget kvs (.tup [.int i, .int j])).isSome = b1 at e1 ⊢
  generalize (dget kvs (.tup [.int j, .int i])).isSome = b2 at e2 ⊢
  cases b1 <;> simp [e1, e2]
theorem c_mo {h : MH} {d p lf : Nat} {Q L M : List Int} {a0 a3 a5 a6 a7 a8 : Option MV} (T : Tak n t kvs) (ed : h[d]? = some (.dic false kvs)) (ep : h[p]? = some (.lst (iL Q))) (el : h[lf]? = some (.lst (iL L))) (hP : Q.length ≤ 100) (hL : L.length ≤ 100) (hm : lpMore t n Q L = some M) :
    ∃ h', xE (cfg P k) moE [a0, some (.ref d), some (.ref lf), a3, some (.ref p), a5, a6, a7, a8] h = .ok (.ref h.length) h' ∧ Ex h h' ∧ h'[h.length]? = some (.lst (iL M)) := by
  unfold lpMore at hm
  split at hm
  · rename_i hg
    cases hm
    rw [List.all_eq_true] at hg
    refine lc_filter (h1 := h) (nl := lf) (by simp) (by simp) el hL fun j hj h2 X => ?_
    have hgj := hg j hj
    have e1 := notin_iL (x := j) (X.get ep)
    by_cases hjp : j ∈ Q
    · refine ⟨h2, ?_, Ex.refl⟩
      simp [e1, hjp]
    · have hok : ∀ i ∈ Q, okp n i j = true := by
        rw [Bool.or_eq_true, decide_eq_true_eq] at hgj
        rcases hgj with z | z
        · exact absurd z hjp
        · rw [List.all_eq_true] at z
          exact z
      obtain ⟨h3, q1, q2, q3⟩ := c_in (k := k) (a0 := a0) (a2 := some (.ref lf)) (a3 := a3) (a5 := a5) (a6 := a6) (a8 := a8) T (X.get ed) (X.get ep) hP hok
      refine ⟨h3 ++ [MO.lst []], ?_, q2.push⟩
      have hlt := ltP q3
      have e2 := ne_iL (h := h3 ++ [MO.lst (iL [])]) (a := h2.length) (b := h3.length) (xs := Q.filter fun i => t i j) (ys := []) (by rw [List.getElem?_append_left hlt]; exact q3) (by simp)
      simp only [iL_nil] at e2
      simp [e1, hjp, q1, e2]
  · cases hm
theorem more_len {Q L M : List Int} (hm : lpMore t n Q L = some M) : True := trivial
theorem gr_wh {h0 : MH} {d lf fd : Nat} {L : List Int} {a0 a7 a8 : Option MV} (T : Tak n t kvs) (ed : h0[d]? = some (.dic false kvs)) (el : h0[lf]? = some (.lst (iL L))) (hL : L.length ≤ 50) {N : Nat} (hN : N ≤ h0.length) :
    ∀ (f : Nat) (Q Q' : List Int) (h : MH) (p : Nat) (a6 : Option MV), N ≤ p → Ex h0 h → h[p]? = some (.lst (iL Q)) → Q.length ≤ 50 → lpGrow t n f Q L = some Q' →
      ∃ h' p' a6', Wh (xT (cfg P k) grC) (xB (cfg P k) grB) [a0, some (.ref d), some (.ref lf), some (.ref fd), some (.ref p), some (.bl true), a6, a7, a8] h (.nx [a0, some (.ref d), some (.ref lf), some (.ref fd), some (.ref p'), some (.bl false), a6', a7, a8] h') ∧ Ex h0 h' ∧ h'[p']? = some (.lst (iL Q')) ∧ N ≤ p'
  | 0, Q, Q', h, p, a6, hNp, X, ep, hQ, e => by simp [lpGrow] at e
  | f + 1, Q, Q', h, p, a6, hNp, X, ep, hQ, e => by
    simp only [lpGrow] at e
    cases em : lpMore t n Q L with
    | none => rw [em] at e; cases e
    | some M =>
      rw [em] at e
      simp only [Option.bind_some] at e
      split at e
      · rename_i hz
        obtain ⟨h1, q1, q2, q3⟩ := c_mo (k := k) (a0 := a0) (a3 := some (.ref fd)) (a5 := some (.bl true)) (a6 := a6) (a7 := a7) (a8 := a8) T (X.get ed) ep (X.get el) (by omega) (by omega) em
        have ep1 := q2.get ep
        have add : binop .Add (.ref p) (.ref h.length) h1 = .ok (.ref h1.length) (h1 ++ [MO.lst (iL (Q ++ M))]) := by
          have : (iL Q).length + (iL M).length ≤ sizeLine := by rw [iL_length, iL_length, sizeLine_eq]; omega
          simp only [binop, ep1, q3, this, if_true, iL_app]
        have eM2 : (h1 ++ [MO.lst (iL (Q ++ M))] ++ [MO.lst (iL [])])[h.length]? = some (.lst (iL M)) := get_push (get_push q3)
        have ne2 := ne_iL (h := h1 ++ [MO.lst (iL (Q ++ M))] ++ [MO.lst (iL [])]) (a := h.length) (b := (h1 ++ [MO.lst (iL (Q ++ M))]).length) (xs := M) (ys := []) eM2 getP_new
        have body : xB (cfg P k) grB [a0, some (.ref d), some (.ref lf), some (.ref fd), some (.ref p), some (.bl true), a6, a7, a8] h = .nx [a0, some (.ref d), some (.ref lf), some (.ref fd), some (.ref h1.length), some (.bl (!decide (M = []))), some (.ref h.length), a7, a8] (h1 ++ [MO.lst (iL (Q ++ M))] ++ [MO.lst (iL [])]) := by
          rw [xB_cons, xS_asgN, q1, out_ok, seq_nx, xB_cons, xS_asgN]
          have e1 : xE (cfg P k) (.bin .Add (.var 4) (.var 6)) (List.set [a0, some (.ref d), some (.ref lf), some (.ref fd), some (.ref p), some (.bl true), a6, a7, a8] 6 (some (.ref h.length))) h1 = .ok (.ref h1.length) (h1 ++ [MO.lst (iL (Q ++ M))]) := by
            simp [add]
          rw [e1, out_ok, seq_nx, xB_cons, xS_asgN]
          have e2 : xE (cfg P k) (.cmp .NotEq (.var 6) (.lst .nil)) (List.set (List.set [a0, some (.ref d), some (.ref lf), some (.ref fd), some (.ref p), some (.bl true), a6, a7, a8] 6 (some (.ref h.length))) 4 (some (.ref h1.length))) (h1 ++ [MO.lst (iL (Q ++ M))]) = .ok (.bl (!decide (M = []))) (h1 ++ [MO.lst (iL (Q ++ M))] ++ [MO.lst (iL [])]) := by
            simp only [iL_nil] at ne2
            simp only [xE_cmp, xE_var, xE_lst, xEs_nil, bind_ok, iL_nil]
            simpa using ne2
          rw [e2, out_ok, seq_nx, xB_nil]
          rfl
        have X1 : Ex h0 (h1 ++ [MO.lst (iL (Q ++ M))] ++ [MO.lst (iL [])]) := (X.trans q2).push.push
        have ep2 : (h1 ++ [MO.lst (iL (Q ++ M))] ++ [MO.lst (iL [])])[h1.length]? = some (.lst (iL (Q ++ M))) := get_push getP_new
        have hc : xT (cfg P k) grC [a0, some (.ref d), some (.ref lf), some (.ref fd), some (.ref p), some (.bl true), a6, a7, a8] h = .ok true h := by simp [xT_eq]
        split at e
        · rename_i hM
          cases e
          have hf : (!decide (M = [])) = false := by simp [hM]
          rw [hf] at body
          refine ⟨_, h1.length, some (.ref h.length), .nx hc body (.no ?_), X1, ep2, by have := X.le; have := q2.le; omega⟩
          simp [xT_eq]
        · rename_i hM
          obtain ⟨h', p', a6', w, z⟩ := gr_wh T ed el hL hN f (Q ++ M) Q' _ h1.length (some (.ref h.length)) (by have := X.le; have := q2.le; omega) X1 ep2 (by simp; omega) e
          refine ⟨h', p', a6', .nx hc body ?_, z⟩
          have : (!decide (M = [])) = true := by simp [hM]
          rw [this]
          exact w
      · cases e
abbrev lpC : ME := .cmp .NotEq (.var 2) (.lst .nil)
abbrev leE : ME := .lc (.var 7) [7] (.name 7) (.seq (.var 2)) (.some (.cmp .NotIn (.var 7) (.var 4)))
abbrev lpB : MSs := .cons (.asg (.name 4) (.lst (.cons (.idx (.var 2) (.int 0)) .nil))) (.cons (.asg (.name 5) (.bl true)) (.cons (.wh grC grB) (.cons (.expr (.bm .append (.var 3) (.cons (.bf .sorted (.cons (.var 4) .nil)) .nil))) (.cons (.asg (.name 2) leE) .nil))))
theorem lp_wh {h0 : MH} {d fd : Nat} {a0 a7 a8 : Option MV} (T : Tak n t kvs) (ed : h0[d]? = some (.dic false kvs)) (hfd : h0.length ≤ fd) :
    ∀ (f : Nat) (L : List Int) (acc out : List (List Int)) (rs : List Nat) (h : MH) (lf : Nat) (a4 a5 a6 : Option MV), Ex h0 h → h[lf]? = some (.lst (iL L)) → h0.length ≤ lf → lf ≠ fd → h[fd]? = some (.lst (rfs rs)) → LL h rs acc → (∀ r ∈ rs, h0.length ≤ r ∧ r ≠ fd) → lpWh t n f L acc = some out →
      ∃ h' rs' lf' a4' a5' a6', Wh (xT (cfg P k) lpC) (xB (cfg P k) lpB) [a0, some (.ref d), some (.ref lf), some (.ref fd), a4, a5, a6, a7, a8] h (.nx [a0, some (.ref d), some (.ref lf'), some (.ref fd), a4', a5', a6', a7, a8] h') ∧ Ex h0 h' ∧ h'[fd]? = some (.lst (rfs rs')) ∧ LL h' rs' out ∧ (∀ r ∈ rs', h0.length ≤ r ∧ r ≠ fd)
  | 0, L, acc, out, rs, h, lf, a4, a5, a6, X, el, hlf, hne, ef, l, hr, e => by simp [lpWh] at e
  | f + 1, [], acc, out, rs, h, lf, a4, a5, a6, X, el, hlf, hne, ef, l, hr, e => by
    simp only [lpWh] at e
    cases e
    have ne1 := ne_iL (h := h ++ [MO.lst (iL [])]) (a := lf) (b := h.length) (xs := []) (ys := []) (get_push el) getP_new
    simp only [iL_nil] at ne1
    refine ⟨h ++ [MO.lst []], rs, lf, a4, a5, a6, .no ?_, X.push, get_push ef, l.imp fun a _ o ho => get_push ho, hr⟩
    simp [xT_eq, ne1]
  | f + 1, x :: L, acc, out, rs, h, lf, a4, a5, a6, X, el, hlf, hne, ef, l, hr, e => by
    simp only [lpWh] at e
    cases eg : lpGrow t n 6 [x] (x :: L) with
    | none => rw [eg] at e; cases e
    | some Q =>
      rw [eg] at e
      simp only [Option.bind_some] at e
      split at e
      · rename_i hz
        have ne1 := ne_iL (h := h ++ [MO.lst (iL [])]) (a := lf) (b := h.length) (xs := x :: L) (ys := []) (get_push el) getP_new
        have hc : xT (cfg P k) lpC [a0, some (.ref d), some (.ref lf), some (.ref fd), a4, a5, a6, a7, a8] h = .ok true (h ++ [MO.lst (iL [])]) := by
          simp only [iL_nil] at ne1
          simp [xT_eq, ne1]
        have el1 : (h ++ [MO.lst (iL [])] ++ [MO.lst (iL [x])])[lf]? = some (.lst (iL (x :: L))) := get_push (get_push el)
        have X1 : Ex h (h ++ [MO.lst (iL [])] ++ [MO.lst (iL [x])]) := Ex.refl.push.push
        obtain ⟨h2, p2, a62, w, X2, ep2, hNp2⟩ := gr_wh (k := k) (h0 := h ++ [MO.lst (iL [])] ++ [MO.lst (iL [x])]) (d := d) (lf := lf) (fd := fd) (a0 := a0) (a7 := a7) (a8 := a8) T (X1.get (X.get ed)) el1 (by simp; omega) (N := h.length + 1) (by simp) 6 [x] Q _ (h ++ [MO.lst (iL [])]).length a6 (by simp) Ex.refl getP_new (by simp) eg
        have X12 : Ex h h2 := X1.trans X2
        have ef2 := X12.get ef
        have elf2 := X12.get el
        have hfl2 : fd < h2.length := ltP ef2
        -- sorted, appended
        have es := sorted_iL (h := h2) ep2
        have hap : bmeth .append (.ref fd) [.ref h2.length] (h2 ++ [MO.lst (iL (sortI Q))]) = .ok .non ((h2 ++ [MO.lst (iL (sortI Q))]).set fd (.lst (rfs (rs ++ [h2.length])))) := by
          rw [append_lst (get_push ef2) (by rw [rfs_length, l.len, sizeLine_eq]; omega), rfs_snoc]
        generalize hh3 : (h2 ++ [MO.lst (iL (sortI Q))]).set fd (.lst (rfs (rs ++ [h2.length]))) = h3 at hap
        have hne2 : fd ≠ h2.length := by omega
        have e3at : ∀ a o, a ≠ fd → h2[a]? = some o → h3[a]? = some o := fun a o ha ho => by
          rw [← hh3, List.getElem?_set_ne (Ne.symm ha)]
          exact get_push ho
        have ef3 : h3[fd]? = some (.lst (rfs (rs ++ [h2.length]))) := by
          rw [← hh3, List.getElem?_set_self (by simp; omega)]
        have es3 : h3[h2.length]? = some (.lst (iL (sortI Q))) := by
          rw [← hh3, List.getElem?_set_ne hne2]
          exact getP_new
        have X3 : Ex h0 h3 := by
          rw [← hh3]
          exact (X.trans X12).push.set hfd
        have hp2 : p2 ≠ fd := by have := ltP ef; omega
        obtain ⟨h4, q1, X4, el4⟩ := lc_filter (c := cfg P k) (σ := [a0, some (.ref d), some (.ref lf), some (.ref fd), some (.ref p2), some (.bl false), a62, a7, a8]) (h := h3) (h1 := h3) (v := 7) (nl := lf) (e := .var 2) (ce := .cmp .NotIn (.var 7) (.var 4)) (xs := x :: L) (p := fun j => !decide (j ∈ Q)) (by simp) (by simp) (e3at _ _ hne elf2) (by simp; omega) (fun j hj h5 X5 => ⟨h5, by
          have := notin_iL (x := j) (X5.get (e3at _ _ hp2 ep2))
          simp [this], Ex.refl⟩)
        have hl3 : h2.length < h3.length := ltP es3
        obtain ⟨h', rs', lf', a4', a5', a6', w2, z⟩ := lp_wh T ed hfd f _ _ out (rs ++ [h2.length]) h4 h3.length (some (.ref p2)) (some (.bl false)) a62 (X3.trans X4) el4 X3.le (by have := ltP ef3; omega) (X4.get ef3) (by
          refine LL.snoc (l.imp fun a ha o ho => X4.get (e3at a o (hr a ha).2 (X12.get ho))) (X4.get es3)) (by
          intro a ha
          rcases List.mem_append.mp ha with ha | ha
          · exact hr a ha
          · have : a = h2.length := by simpa using ha
            subst this
            have := X.le
            have := X12.le
            exact ⟨by omega, by omega⟩) e
        refine ⟨h', rs', lf', a4', a5', a6', .nx hc ?_ w2, z⟩
        have ei : getIx (.ref lf) (.int 0) (h ++ [MO.lst (iL [])]) = .ok (.int x) (h ++ [MO.lst (iL [])]) := getIx_lst (get_push el) (atI_cons0 _ _)
        have s1 : xE (cfg P k) (.lst (.cons (.idx (.var 2) (.int 0)) .nil)) [a0, some (.ref d), some (.ref lf), some (.ref fd), a4, a5, a6, a7, a8] (h ++ [MO.lst (iL [])]) = .ok (.ref (h ++ [MO.lst (iL [])]).length) (h ++ [MO.lst (iL [])] ++ [MO.lst (iL [x])]) := by
          simp only [xE_lst, xEs_cons, xEs_nil, xE_idx, xE_var, xE_int, bind_ok, List.getElem?_cons_zero, List.getElem?_cons_succ, ei]
          rfl
        have s2 : xS (cfg P k) (.wh grC grB) [a0, some (.ref d), some (.ref lf), some (.ref fd), some (.ref (h ++ [MO.lst (iL [])]).length), some (.bl true), a6, a7, a8] (h ++ [MO.lst (iL [])] ++ [MO.lst (iL [x])]) = .nx [a0, some (.ref d), some (.ref lf), some (.ref fd), some (.ref p2), some (.bl false), a62, a7, a8] h2 := by
          rw [xS_wh]
          exact whF_of w
        have s3 : xE (cfg P k) (.bm .append (.var 3) (.cons (.bf .sorted (.cons (.var 4) .nil)) .nil)) [a0, some (.ref d), some (.ref lf), some (.ref fd), some (.ref p2), some (.bl false), a62, a7, a8] h2 = .ok .non h3 := by
          rw [xE_bm (h1 := h2) (h2 := h2 ++ [MO.lst (iL (sortI Q))]) (v := .ref fd) (vs := [.ref h2.length]) (k := 0) (by simp) (kind_lst ef2) rfl (by simp [es]) (kind_lst (get_push ef2)), hap]
        rw [xB_cons, xS_asgN, s1, out_ok, seq_nx, xB_cons, xS_asgN, xE_bl, out_ok, seq_nx, xB_cons]
        show ((xS (cfg P k) (.wh grC grB) [a0, some (.ref d), some (.ref lf), some (.ref fd), some (.ref (h ++ [MO.lst (iL [])]).length), some (.bl true), a6, a7, a8] (h ++ [MO.lst (iL [])] ++ [MO.lst (iL [x])])).seq _) = _
        rw [s2, seq_nx, xB_cons, xS_expr, s3, out_ok, seq_nx, xB_cons, xS_asgN, q1, out_ok, seq_nx, xB_nil]
        rfl
      · cases e
theorem c_law_parts {h : MH} {d : Nat} (T : Tak n t kvs) (ed : h[d]? = some (.dic false kvs)) (hn : n ≤ 4) {out : List (List Int)} (e : lpWh t n 8 (upto n) [] = some out) :
    ∃ h' fd rs, callN P (k + 1) 23 [.int n, .ref d] h = .ok (.ref fd) h' ∧ Ex h h' ∧ h.length ≤ fd ∧ h'[fd]? = some (.lst (rfs rs)) ∧ LL h' rs out ∧ ∀ r ∈ rs, h.length ≤ r ∧ r ≠ fd := by
  have n4 : upto n = [] ∨ True := .inr trivial
  obtain ⟨h', rs, lf', a4', a5', a6', w, X, q1, q2, q3⟩ := lp_wh (k := k) (h0 := h) (d := d) (fd := h.length + 1) (a0 := some (.int n)) (a7 := none) (a8 := none) T ed (by omega) 8 (upto n) [] out [] (h ++ [MO.lst (iL (upto n))] ++ [MO.lst (rfs [])]) h.length none none none Ex.refl.push.push (get_push getP_new) (Nat.le_refl _) (by omega) (by simp [rfs]) trivial (by simp) e
  refine ⟨h', h.length + 1, rs, ?_, X, by omega, q1, q2, q3⟩
  rw [call_eq fn_law_parts rfl]
  have m2 := lrng_ok (h := h) hn
  have ew : xS (cfg P k) (.wh lpC lpB) [some (.int n), some (.ref d), some (.ref h.length), some (.ref (h.length + 1)), none, none, none, none, none] (h ++ [MO.lst (iL (upto n))] ++ [MO.lst []]) = .nx [some (.int n), some (.ref d), some (.ref lf'), some (.ref (h.length + 1)), a4', a5', a6', none, none] h' := by
    rw [xS_wh]
    exact whF_of w
  simp only [f_law_parts, b_law_parts]
  show (xB (cfg P k) (.cons (.asg (.name 2) (.bf .listRange (.cons (.var 0) .nil))) (.cons (.asg (.name 3) (.lst .nil)) (.cons (.wh lpC lpB) (.cons (.ret (.var 3)) .nil)))) [some (.int n), some (.ref d), none, none, none, none, none, none, none] h).fin = _
  have s1 : xE (cfg P k) (.bf .listRange (.cons (.var 0) .nil)) [some (.int n), some (.ref d), none, none, none, none, none, none, none] h = .ok (.ref h.length) (h ++ [MO.lst (iL (upto n))]) := by
    simp [m2]
  have s2 : xE (cfg P k) (.lst .nil) [some (.int n), some (.ref d), some (.ref h.length), none, none, none, none, none, none] (h ++ [MO.lst (iL (upto n))]) = .ok (.ref (h.length + 1)) (h ++ [MO.lst (iL (upto n))] ++ [MO.lst []]) := by
    simp
  rw [xB_cons, xS_asgN, s1, out_ok, seq_nx, xB_cons, xS_asgN]
  show (((xE (cfg P k) (.lst .nil) [some (.int n), some (.ref d), some (.ref h.length), none, none, none, none, none, none] (h ++ [MO.lst (iL (upto n))])).out _ _).seq _).fin = _
  rw [s2, out_ok, seq_nx, xB_cons]
  show ((xS (cfg P k) (.wh lpC lpB) [some (.int n), some (.ref d), some (.ref h.length), some (.ref (h.length + 1)), none, none, none, none, none] (h ++ [MO.lst (iL (upto n))] ++ [MO.lst []])).seq _).fin = _
  rw [ew, seq_nx]
  simp
end
end K69
namespace K69
open PySem Mi
/-! ### the two parts are the same -/
def T6 (a b c d e f : Bool) (i j : Int) : Bool :=
  if (i = 0 ∧ j = 1) ∨ (i = 1 ∧ j = 0) then a else if (i = 0 ∧ j = 2) ∨ (i = 2 ∧ j = 0) then b else if (i = 0 ∧ j = 3) ∨ (i = 3 ∧ j = 0) then c else
  if (i = 1 ∧ j = 2) ∨ (i = 2 ∧ j = 1) then d else if (i = 1 ∧ j = 3) ∨ (i = 3 ∧ j = 1) then e else if (i = 2 ∧ j = 3) ∨ (i = 3 ∧ j = 2) then f else false
def same (t : Int → Int → Bool) (n : Nat) : Bool := match psWh t n 8 (upto n) [], lpWh t n 8 (upto n) [] with
  | some x, some y => decide (x = y) && !x.isEmpty && (x.all fun l => decide (l.length ≤ 50)) && decide (x.length ≤ 50)
  | _, _ => false
theorem same_all : ∀ a b c d e f : Bool, (same (T6 a b c d e f) 1 && same (T6 a b c d e f) 2 && same (T6 a b c d e f) 3 && same (T6 a b c d e f) 4) = true := by decide +kernel
theorem same_n {n : Nat} (h : 1 ≤ n ∧ n ≤ 4) (a b c d e f : Bool) : ∃ xs xss, psWh (T6 a b c d e f) n 8 (upto n) [] = some (xs :: xss) ∧ lpWh (T6 a b c d e f) n 8 (upto n) [] = some (xs :: xss) ∧ (∀ ys ∈ xs :: xss, ys.length ≤ 50) ∧ xss.length ≤ 50 := by
  have s := same_all a b c d e f
  simp only [Bool.and_eq_true] at s
  have q : same (T6 a b c d e f) n = true := by
    have : n = 1 ∨ n = 2 ∨ n = 3 ∨ n = 4 := by omega
    rcases this with rfl | rfl | rfl | rfl
    · exact s.1.1.1
    · exact s.1.1.2
    · exact s.1.2
    · exact s.2
  unfold same at q
  split at q
  · rename_i x y e1 e2
    simp only [Bool.and_eq_true, decide_eq_true_eq] at q
    obtain ⟨⟨⟨rfl, q⟩, q2⟩, q3⟩ := q
    cases x with
    | nil => simp at q
    | cons xs xss =>
      refine ⟨xs, xss, e1, e2, fun ys hy => ?_, by simp at q3; omega⟩
      rw [List.all_eq_true] at q2
      simpa using q2 ys hy
  · cases q
/-! ### lists of lists -/
theorem toDs_LL {h : MH} : ∀ {rs : List Nat} {xss : List (List Int)}, LL h rs xss → (rfs rs).mapM (toD h 7) = some (xss.map fun xs => PyData.list (xs.map PyData.int))
  | [], [], _ => rfl
  | r :: rs, xs :: xss, l => by
    show List.mapM _ (MV.ref r :: rfs rs) = _
    rw [List.mapM_cons, toDs_LL l.2, toD_iL (k := 5) l.1]
    rfl
  | [], _ :: _, l => l.elim
  | _ :: _, [], l => l.elim
theorem toD_LL {h : MH} {fd : Nat} {rs : List Nat} {xss : List (List Int)} (e : h[fd]? = some (.lst (rfs rs))) (l : LL h rs xss) : toD h 8 (.ref fd) = some (.list (xss.map fun xs => PyData.list (xs.map PyData.int))) := by
  unfold toD
  simp only [e, toDs_LL l]
  rfl
theorem eqvAll_self : ∀ xss : List (List Int), PyData.eqvAll (xss.map fun xs => PyData.list (xs.map PyData.int)) (xss.map fun xs => PyData.list (xs.map PyData.int)) = true
  | [] => by simp [PyData.eqvAll]
  | xs :: xss => by
    simp only [List.map_cons, PyData.eqvAll, PyData.eqv, eqvAll_self xss, eqvAll_ints]
    simp
theorem eqv_LL {h : MH} {a b : Nat} {rs ss : List Nat} {xss : List (List Int)} (e1 : h[a]? = some (.lst (rfs rs))) (l1 : LL h rs xss) (e2 : h[b]? = some (.lst (rfs ss))) (l2 : LL h ss xss) : eqv h (.ref a) (.ref b) = some true := by
  unfold eqv
  simp only [dictOf_lst e1, dictOf_lst e2, toD_LL e1 l1, toD_LL e2 l2, PyData.eqv, eqvAll_self]
theorem LL.at {h : MH} : ∀ {rs : List Nat} {xss : List (List Int)} {r : Nat}, LL h rs xss → r ∈ rs → ∃ xs, h[r]? = some (.lst (iL xs)) ∧ xs ∈ xss
  | r :: rs, xs :: xss, r', l, hr => by
    rcases List.mem_cons.mp hr with e | hr
    · subst e; exact ⟨xs, l.1, List.mem_cons_self ..⟩
    · obtain ⟨ys, q1, q2⟩ := LL.at l.2 hr
      exact ⟨ys, q1, List.mem_cons_of_mem _ q2⟩
  | [], [], _, _, hr => by simp at hr
  | [], _ :: _, _, l, _ => l.elim
  | _ :: _, [], _, l, _ => l.elim
section
variable {n : Nat} {F : Nat → Nat → Int × Int} {t : Int → Int → Bool} {kvs : List (MV × MV)} {k : Nat}
abbrev boE : ME := .lc (.var 5) [5] (.name 5) (.seq (.var 4)) (.some (.isi (.var 5) [.bool] true))
abbrev riB : MSs := .cons (.ite (.or (.not (.isi (.var 4) [.list] true)) (.cmp .NotEq boE (.lst .nil))) (.cons (.ret (.bl false)) .nil) .nil) .nil
theorem ri_loop {fd : Nat} {vs0 : List MV} {a0 a1 a2 a3 : Option MV} : ∀ (rs : List Nat) (h : MH) (a4 a5 : Option MV), h[fd]? = some (.lst vs0) → (∀ r ∈ rs, ∃ xs, h[r]? = some (.lst (iL xs)) ∧ xs.length ≤ 100) →
    ∃ h' a4' a5', loopF (.obj fd (.lst vs0)) (fun v σ h => (match setT (.name 4) v σ with
      | some σ' => xB (cfg P k) riB σ' h
      | none => .bad)) (rfs rs) [a0, a1, a2, a3, a4, a5] h = .nx [a0, a1, a2, a3, a4', a5'] h' ∧ Ex h h'
  | [], h, a4, a5, ef, _ => by
    have gk : (Gd.obj fd (.lst vs0)).ok h = true := decide_eq_true ef
    exact ⟨h, a4, a5, by simp [rfs, loopF, gk], Ex.refl⟩
  | r :: rs, h, a4, a5, ef, hr => by
    have gk : (Gd.obj fd (.lst vs0)).ok h = true := decide_eq_true ef
    obtain ⟨xs, e1, hz⟩ := hr r (List.mem_cons_self ..)
    obtain ⟨h1, q1, X1, e2⟩ := lc_filter (c := cfg P k) (σ := [a0, a1, a2, a3, some (.ref r), a5]) (h := h) (h1 := h) (v := 5) (nl := r) (e := .var 4) (ce := .isi (.var 5) [.bool] true) (xs := xs) (p := fun _ => false) (by simp) (by simp) e1 hz (fun j hj h5 X5 => ⟨h5, by simp [isTys, isTy], Ex.refl⟩)
    have hf : xs.filter (fun _ => false) = [] := List.filter_eq_nil_iff.mpr (by simp)
    have e2' : h1[h.length]? = some (.lst (iL [])) := by rw [hf] at e2; exact e2
    have ne1 := ne_iL (h := h1 ++ [MO.lst (iL [])]) (a := h.length) (b := h1.length) (xs := []) (ys := []) (get_push e2') getP_new
    simp only [iL_nil] at ne1
    obtain ⟨h', b4, b5, q2, X2⟩ := ri_loop rs (h1 ++ [MO.lst []]) (some (.ref r)) a5 (get_push (X1.get ef)) (fun r' hr' => by
      obtain ⟨ys, y1, y2⟩ := hr r' (List.mem_cons_of_mem _ hr')
      exact ⟨ys, get_push (X1.get y1), y2⟩)
    refine ⟨h', b4, b5, ?_, X1.push.trans X2⟩
    have st : xB (cfg P k) riB [a0, a1, a2, a3, some (.ref r), a5] h = .nx [a0, a1, a2, a3, some (.ref r), a5] (h1 ++ [MO.lst []]) := by
      simp [xT_eq, isTys, isTy, e1, q1, ne1]
    show loopF _ _ (.ref r :: rfs rs) _ _ = _
    simp only [loopF, gk, if_true, setT, List.set_cons_succ, List.set_cons_zero, st]
    exact q2
/-- what is to be seen at a turn's end -/
theorem c_right {h : MH} {d : Nat} (H : HoldAt h n F) (g : Good n F) (T : Tou n F t) (K : Tak n t kvs) (ed : h[d]? = some (.dic false kvs)) (hl : 5 + 4 * n ≤ h.length) {xs : List Int} {xss : List (List Int)} (hs : ∀ ys ∈ xs :: xss, ys.length ≤ 50)
    (e1 : psWh t n 8 (upto n) [] = some (xs :: xss)) (e2 : lpWh t n 8 (upto n) [] = some (xs :: xss)) (hz : xss.length ≤ 50) :
    ∃ h', callN P (k + 6) 24 [.ref 0, .ref d] h = .ok (.bl true) h' ∧ Ex h h' := by
  have n4 := g.n4
  obtain ⟨h1, fd, rs, c1, X1a, X1b, f1, ef1, l1, r1⟩ := c_parts_of (k := k) H g T hl e1
  have X1 : Ex h h1 := ⟨X1b, X1a⟩
  have H1 : HoldAt h1 n F := H.kp (ex := h.length) ⟨X1b, fun a ha _ => X1a a ha⟩ hl
  obtain ⟨h2, fe, ss, c2, X2, f2, ef2, l2, r2⟩ := c_law_parts (k := k + 4) K (X1.get ed) n4.2 e2
  have ef12 := X2.get ef1
  have l12 : LL h2 rs (xs :: xss) := l1.imp fun a _ o ho => X2.get ho
  have eq1 := eqv_LL ef12 l12 ef2 l2
  obtain ⟨h3, a4, a5, q3, X3⟩ := ri_loop (k := k + 5) (fd := fd) (vs0 := rfs rs) (a0 := some (.ref 0)) (a1 := some (.ref d)) (a2 := some (.ref fd)) (a3 := some (.ref fe)) rs h2 none none ef12 (fun r hr => by
    obtain ⟨ys, y1, y2⟩ := l12.at hr
    have := hs ys y2
    exact ⟨ys, y1, by omega⟩)
  cases rs with
  | nil => exact l1.elim
  | cons r0 rs =>
    have e0 : h3[r0]? = some (.lst (iL xs)) := X3.get l12.1
    have ef3 : h3[fd]? = some (.lst (rfs (r0 :: rs))) := X3.get ef12
    have hxs := hs xs (List.mem_cons_self ..)
    have hr0 := r1 r0 (List.mem_cons_self ..)
    -- found[0].append(7)
    have p1 : bmeth .append (.ref r0) [.int 7] h3 = .ok .non (h3.set r0 (.lst (iL xs ++ [.int 7]))) := append_lst e0 (by rw [iL_length, sizeLine_eq]; omega)
    generalize hh4 : h3.set r0 (.lst (iL xs ++ [.int 7])) = h4 at p1
    have at4 : ∀ a o, a ≠ r0 → h3[a]? = some o → h4[a]? = some o := fun a o ha ho => by
      rw [← hh4, List.getElem?_set_ne (Ne.symm ha)]
      exact ho
    have ef4 := at4 fd _ (Ne.symm hr0.2) ef3
    have X4 : Ex h h4 := by
      rw [← hh4]
      exact ((X1.trans X2).trans X3).set hr0.1
    -- found.append([9])
    have hlen := l1.len
    simp only [List.length_cons] at hlen
    have p2 : bmeth .append (.ref fd) [.ref h4.length] (h4 ++ [MO.lst [.int 9]]) = .ok .non ((h4 ++ [MO.lst [.int 9]]).set fd (.lst (rfs (r0 :: rs) ++ [.ref h4.length]))) := append_lst (get_push ef4) (by rw [rfs_length, sizeLine_eq]; simp; omega)
    generalize hh5 : (h4 ++ [MO.lst [.int 9]]).set fd (.lst (rfs (r0 :: rs) ++ [.ref h4.length])) = h5 at p2
    have at5 : ∀ a o, a ≠ fd → h4[a]? = some o → h5[a]? = some o := fun a o ha ho => by
      rw [← hh5, List.getElem?_set_ne (Ne.symm ha)]
      exact get_push ho
    have X5 : Ex h h5 := by
      rw [← hh5]
      exact X4.push.set f1
    have H5 : HoldAt h5 n F := H.kp (ex := h.length) ⟨X5.le, fun a ha _ => X5.at_ a ha⟩ hl
    obtain ⟨h6, ff, us, c6, X6a, X6b, f6, ef6, l6, r6⟩ := c_parts_of (k := k) H5 g T (by have := X5.le; omega) e1
    have X6 : Ex h5 h6 := ⟨X6b, X6a⟩
    have hr0l : r0 < h1.length := ltP l1.1
    have hfdl : fd < h1.length := ltP ef1
    have ef5 : h6[fe]? = some (.lst (rfs ss)) := X6.get (at5 _ _ (by omega) (at4 _ _ (by omega) (X3.get ef2)))
    have l5 : LL h6 ss (xs :: xss) := l2.imp fun a ha o ho => by
      have := r2 a ha
      exact X6.get (at5 _ _ (by omega) (at4 _ _ (by omega) (X3.get ho)))
    have eq2 := eqv_LL ef6 l6 ef5 l5
    refine ⟨h6, ?_, X5.trans X6⟩
    rw [call_eq fn_law_right rfl]
    have m1 : ∀ a2 a3 a4 a5, xE (cfg P (k + 5)) (.meth (.var 0) "many" .nil) [some (.ref 0), a2, a3, a4, a5, none] h1 = .ok (.int n) h1 := fun a2 a3 a4 a5 => by
      rw [xE_meth (h1 := h1) (h2 := h1) (nn := 0) (kk := 8) (f := 14) (vs := []) (by simp) H1.ins rfl rfl (by simp)]
      exact c_many H1
    have lo : xS (cfg P (k + 5)) (.loop (.name 4) (.seq (.var 2)) riB) [some (.ref 0), some (.ref d), some (.ref fd), some (.ref fe), none, none] h2 = .nx [some (.ref 0), some (.ref d), some (.ref fd), some (.ref fe), a4, a5] h3 := by
      rw [xS_loop (xI_seq (by simp) ef12) (fun _ => by simp)]
      exact q3
    have b1 : xE (cfg P (k + 5)) (.bm .append (.idx (.var 2) (.int 0)) (.cons (.int 7) .nil)) [some (.ref 0), some (.ref d), some (.ref fd), some (.ref fe), a4, a5] h3 = .ok .non h4 := by
      rw [xE_bm (h1 := h3) (h2 := h3) (v := .ref r0) (vs := [.int 7]) (k := 0) (by simp; exact getIx_lst ef3 (atI_cons0 _ _)) (kind_lst e0) rfl (by simp) (kind_lst e0), p1]
    have b2 : xE (cfg P (k + 5)) (.bm .append (.var 2) (.cons (.lst (.cons (.int 9) .nil)) .nil)) [some (.ref 0), some (.ref d), some (.ref fd), some (.ref fe), a4, a5] h4 = .ok .non h5 := by
      rw [xE_bm (h1 := h4) (h2 := h4 ++ [MO.lst [.int 9]]) (v := .ref fd) (vs := [.ref h4.length]) (k := 0) (by simp) (kind_lst ef4) rfl (by simp) (kind_lst (get_push ef4)), p2]
    have i1 : isTys P h2 (.ref fd) [.list] = some true := by simp [isTys, isTy, ef12]
    simp only [f_law_right, b_law_right]
    show (xB (cfg P (k + 5)) (.cons (.asg (.name 2) (.call 19 (.cons (.var 0) .nil))) (.cons (.asg (.name 3) (.call 23 (.cons (.meth (.var 0) "many" .nil) (.cons (.var 1) .nil)))) (.cons (.ite (.or (.not (.isi (.var 2) [.list] true)) (.cmp .NotEq (.var 2) (.var 3))) (.cons (.ret (.bl false)) .nil) .nil) (.cons (.loop (.name 4) (.seq (.var 2)) riB) (.cons (.expr (.bm .append (.idx (.var 2) (.int 0)) (.cons (.int 7) .nil))) (.cons (.expr (.bm .append (.var 2) (.cons (.lst (.cons (.int 9) .nil)) .nil))) (.cons (.ret (.cmp .Eq (.call 19 (.cons (.var 0) .nil)) (.var 3))) .nil))))))) [some (.ref 0), some (.ref d), none, none, none, none] h).fin = _
    have c2 : callN P (k + 5) 23 [.int n, .ref d] h1 = .ok (.ref fe) h2 := c2
    simp [c1, m1, c2, xT_eq, i1, cmpop, eq1, lo, b1, b2, c6, eq2]
end
end K69
namespace K69
open PySem Mi
/-! ### making the hold -/
def hp (n : Nat) : MH := [.ins 8 [("most", .int 4), ("cap", .int 0), ("load", .int 0), ("my_marks", .ref 1), ("my_flows", .ref 2), ("my_skies", .ref 3), ("my_stoves", .ref 4)],
  .lst ((List.range n).map fun i => .ref (6 + 4 * i)), .lst ((List.range n).map fun i => .ref (8 + 4 * i)), .lst (List.replicate n sky), .lst (List.replicate n .non)] ++
  (List.range n).flatMap fun (i : Nat) => [MO.lst [fr ((i : Int), 1), fr ((i : Int) + 1, 1)], .lst [fr ((i : Int), 1), fr ((i : Int) + 1, 1)], .lst [fr (0, 1)], .lst (List.replicate n (fr (0, 1)))]
theorem sm_lit {a : Int} (h : a.natAbs ≤ 100) : Sm a := by
  unfold Sm
  have : (100 : Nat) < 2 ^ 2000 := by decide +kernel
  omega
theorem c_rise {k : Nat} {h : MH} {m : Nat} {i : Nat} (hi : i ≤ 4) (e : h[m]? = some (.lst [fr ((i : Int), 1), fr ((i : Int) + 1, 1)])) : callN P (k + 2) 8 [.ref m] h = .ok (.bl true) h := by
  rw [call_eq fn_do_rise rfl]
  have u := c_under (k := k) (h := h) (a := (i : Int)) (b := 1) (c := (i : Int) + 1) (d := 1) (sm_lit (by omega)) (sm_lit (by omega)) (sm_lit (by omega)) (sm_lit (by omega))
  rw [decide_eq_true (show (i : Int) * 1 < ((i : Int) + 1) * 1 by omega)] at u
  have ir : xI (cfg P (k + 1)) (.rng (.cons (.bin .Sub (.bf .len (.cons (.var 0) .nil)) (.int 1)) .nil)) [some (.ref m), none] h = .ok ([.int 0], .free) h := by
    refine xI_rng (ws := [.int 1]) ?_ ?_
    · simp [len_lst e]
    · rfl
  have lo : xS (cfg P (k + 1)) (.loop (.name 1) (.rng (.cons (.bin .Sub (.bf .len (.cons (.var 0) .nil)) (.int 1)) .nil)) (.cons (.ite (.not (.call 6 (.cons (.idx (.var 0) (.var 1)) (.cons (.idx (.var 0) (.bin .Add (.var 1) (.int 1))) .nil)))) (.cons (.ret (.bl false)) .nil) .nil) .nil)) [some (.ref m), none] h = .nx [some (.ref m), some (.int 0)] h := by
    rw [xS_loop ir (fun _ => by simp)]
    have g0 : getIx (.ref m) (.int 0) h = .ok (fr ((i : Int), 1)) h := getIx_lst e (atI_cons0 _ _)
    have g1 : getIx (.ref m) (.int 1) h = .ok (fr ((i : Int) + 1, 1)) h := getIx_lst e (by simp [L2.atI, L2.ixN])
    simp [loopF, Gd.ok, setT, xT_eq, g0, g1, u]
  simp only [f_do_rise, b_do_rise]
  simp [FnD.start, FnD.fill, xT_eq, len_lst e, lo]
theorem bm_eq {c : Cfg} {b : BM} {a : ME} {es : MEs} {σ : MEnv} {h : MH} : xE c (.bm b a es) σ h = (xE c a σ h).bind fun v h => (match kindB h v with
    | some k => if bmFit b k = true then (xEs c es σ h).bind fun vs h => if kindB h v = some k then bmeth b v vs h else .bad else .bad
    | none => .bad) := by simp only [xE] <;> rfl
theorem loop_eq {c : Cfg} {t : MT} {it : MI} {b : MSs} {σ : MEnv} {h : MH} : xS c (.loop t it b) σ h = (xI c it σ h).out σ fun vg h => vg.2.offO (loopF vg.2 (fun v σ h => (match setT t v σ with
      | some σ' => xB c b σ' h
      | none => .bad)) vg.1 σ h) := by simp only [xS] <;> rfl
theorem seq_eq {c : Cfg} {e : ME} {σ : MEnv} {h : MH} : xI c (.seq e) σ h = (xE c e σ h).bind fun v h => (match v with
    | .tup vs => .ok (vs, .free) h
    | .rol vs => .ok (vs, .free) h
    | .ref n => (match h[n]? with
      | some (.lst vs) => .ok (vs, .obj n (.lst vs)) h
      | _ => .bad)
    | _ => .bad) := by simp only [xI] <;> rfl
theorem lk1 : List.lookup ("my_marks" : Str) [("most", MV.int 4), ("cap", .int 0), ("load", .int 0), ("my_marks", .ref 1), ("my_flows", .ref 2), ("my_skies", .ref 3), ("my_stoves", .ref 4)] = some (.ref 1) := rfl
theorem lk2 : List.lookup ("my_flows" : Str) [("most", MV.int 4), ("cap", .int 0), ("load", .int 0), ("my_marks", .ref 1), ("my_flows", .ref 2), ("my_skies", .ref 3), ("my_stoves", .ref 4)] = some (.ref 2) := rfl
theorem lk3 : List.lookup ("my_skies" : Str) [("most", MV.int 4), ("cap", .int 0), ("load", .int 0), ("my_marks", .ref 1), ("my_flows", .ref 2), ("my_skies", .ref 3), ("my_stoves", .ref 4)] = some (.ref 3) := rfl
theorem lk4 : List.lookup ("my_stoves" : Str) [("most", MV.int 4), ("cap", .int 0), ("load", .int 0), ("my_marks", .ref 1), ("my_flows", .ref 2), ("my_skies", .ref 3), ("my_stoves", .ref 4)] = some (.ref 4) := rfl
theorem mul_iS {i j : Int} {h : MH} (hi : i.natAbs ≤ 100) (hj : j.natAbs ≤ 100) : binop .Mult (.int i) (.int j) h = .ok (.int (i * j)) h := by
  simp only [binop, (sm_lit hi).mul (sm_lit hj), if_true]
theorem gobj_ok {h : MH} {n : Nat} {o : MO} (e : h[n]? = some o) : (Gd.obj n o).ok h = true := decide_eq_true e
theorem rep_mul {h : MH} {a : Nat} {x : MV} {k : Nat} (e : h[a]? = some (.lst [x])) (hk : k ≤ 10) : binop .Mult (.ref a) (.int (k : Int)) h = .ok (.ref h.length) (h ++ [.lst (List.replicate k x)]) := by
  have h1 : -(2 ^ 63 : Int) ≤ (k : Int) := by omega
  have h2 : (k : Int) < 2 ^ 63 := Int.lt_of_le_of_lt (show (k : Int) ≤ 10 by omega) (by decide)
  have h3 : [x].length * (k : Int).toNat ≤ sizeLine := by simp [sizeLine_eq]; omega
  simp only [binop, e, h1, h2, h3, and_self, if_true]
  congr 3
  simp
theorem cons0 : P.cons[0]? = some (("NOUGHT_holds" : Str), MV.tup [MV.int 0, MV.int 1]) := rfl
theorem mulOk1 : MulOk 1 1 := (sm_lit (by decide)).mul (sm_lit (by decide))
theorem c_room0 {k : Nat} : callN P (k + 3) 12 [.ref 0, .ref 5] (hp 0 ++ [MO.lst [fr (0, 1), fr (1, 1)]]) = .ok (.int 0) (hp 1) := by
  rw [call_eq fn_Hold_put_room rfl]
  have cr := c_rise (k := k) (h := hp 0 ++ [MO.lst [fr (0, 1), fr (1, 1)]]) (m := 5) (i := 0) (by omega) (by simp [hp, List.range, List.range.loop])
  simp only [f_Hold_put_room, b_Hold_put_room]
  simp [hp, List.range, List.range.loop, List.replicate] at cr ⊢
  simp [FnD.start, FnD.fill, xT_eq, cr, getF, lk1, lk2, lk3, lk4, bfn, dictOf, seqOf, loop_eq, seq_eq, bm_eq, kindB, bmFit, bmeth, sizeLine_eq, loopF, Gd.ok, Gd.off, Gd.offO, setT, cons0, binop, mulOk1, List.replicate]
theorem c_room1 {k : Nat} : callN P (k + 3) 12 [.ref 0, .ref 9] (hp 1 ++ [MO.lst [fr (1, 1), fr (2, 1)]]) = .ok (.int 1) (hp 2) := by
  rw [call_eq fn_Hold_put_room rfl]
  have cr := c_rise (k := k) (h := hp 1 ++ [MO.lst [fr (1, 1), fr (2, 1)]]) (m := 9) (i := 1) (by omega) (by simp [hp, List.range, List.range.loop])
  simp only [f_Hold_put_room, b_Hold_put_room]
  simp [hp, List.range, List.range.loop, List.replicate] at cr ⊢
  simp [FnD.start, FnD.fill, xT_eq, cr, getF, lk1, lk2, lk3, lk4, bfn, dictOf, seqOf, loop_eq, seq_eq, bm_eq, kindB, bmFit, bmeth, sizeLine_eq, loopF, Gd.ok, Gd.off, Gd.offO, setT, cons0, binop, mulOk1, List.replicate]
theorem c_room2 {k : Nat} : callN P (k + 3) 12 [.ref 0, .ref 13] (hp 2 ++ [MO.lst [fr (2, 1), fr (3, 1)]]) = .ok (.int 2) (hp 3) := by
  rw [call_eq fn_Hold_put_room rfl]
  have cr := c_rise (k := k) (h := hp 2 ++ [MO.lst [fr (2, 1), fr (3, 1)]]) (m := 13) (i := 2) (by omega) (by simp [hp, List.range, List.range.loop])
  simp only [f_Hold_put_room, b_Hold_put_room]
  simp [hp, List.range, List.range.loop, List.replicate] at cr ⊢
  simp [FnD.start, FnD.fill, xT_eq, cr, getF, lk1, lk2, lk3, lk4, bfn, dictOf, seqOf, loop_eq, seq_eq, bm_eq, kindB, bmFit, bmeth, sizeLine_eq, loopF, Gd.ok, Gd.off, Gd.offO, setT, cons0, binop, mulOk1, List.replicate]
theorem c_room3 {k : Nat} : callN P (k + 3) 12 [.ref 0, .ref 17] (hp 3 ++ [MO.lst [fr (3, 1), fr (4, 1)]]) = .ok (.int 3) (hp 4) := by
  rw [call_eq fn_Hold_put_room rfl]
  have cr := c_rise (k := k) (h := hp 3 ++ [MO.lst [fr (3, 1), fr (4, 1)]]) (m := 17) (i := 3) (by omega) (by simp [hp, List.range, List.range.loop])
  simp only [f_Hold_put_room, b_Hold_put_room]
  simp [hp, List.range, List.range.loop, List.replicate] at cr ⊢
  simp [FnD.start, FnD.fill, xT_eq, cr, getF, lk1, lk2, lk3, lk4, bfn, dictOf, seqOf, loop_eq, seq_eq, bm_eq, kindB, bmFit, bmeth, sizeLine_eq, loopF, Gd.ok, Gd.off, Gd.offO, setT, cons0, binop, mulOk1, List.replicate]
theorem c_init {k : Nat} : callN P (k + 2) 9 [.ref 0] [.ins 8 []] = .ok .non (hp 0) := by
  rw [call_eq fn_Hold_init rfl]
  have b : ∀ (a b : Int) (h : MH), 0 ≤ a → a ≤ b → callN P (k + 1) 7 [.int a, .int b] h = .ok (.bl true) h := fun a b h h1 h2 => by
    rw [call_eq fn_is_bound rfl]
    simp [f_is_bound, b_is_bound, FnD.start, FnD.fill, isTys, isTy, h1, h2]
  simp only [f_Hold_init, b_Hold_init]
  simp (decide := true) [FnD.start, FnD.fill, xT_eq, b, setFd, putFM, hp]
theorem c_cell {k : Nat} {h : MH} {ns : List Int} {i : Nat} : callN P (k + 1) 20 [.rol (iL ns), .int i] h = .ok (.int (ns.getD i 0)) h := by
  rw [call_eq fn_law_cell_at rfl]
  by_cases hi : i < ns.length
  · have e : ns[i]? = some (ns.getD i 0) := by simp [List.getD, hi]
    have g : getIx (.rol (iL ns)) (.int i) h = .ok (.int (ns.getD i 0)) h := getIx_rol (atI_nat (by rw [iL_get, e]; rfl))
    simp [f_law_cell_at, b_law_cell_at, FnD.start, FnD.fill, xT_eq, len_rol, hi, g]
  · have e : ns.getD i 0 = 0 := by simp [List.getD, List.getElem?_eq_none (Nat.le_of_not_lt hi)]
    simp [f_law_cell_at, b_law_cell_at, FnD.start, FnD.fill, xT_eq, len_rol, hi, e]
theorem c_part {k : Nat} {h : MH} {a b : Int} (hb : 0 < b) (hs : Sm b) : callN P (k + 1) 21 [.int a, .int b] h = .ok (fr (a / (Int.gcd a b : Int), b / (Int.gcd a b : Int))) h := by
  rw [call_eq fn_law_part rfl]
  have hg : 0 < Int.gcd a b := by
    rw [Int.gcd_pos_iff]
    exact .inr (by omega)
  have hle : Int.gcd a b ≤ b.natAbs := Nat.le_of_dvd (by omega) (Int.gcd_dvd_natAbs_right a b)
  have hd : DivOk (Int.gcd a b : Int) := Sm.div (by unfold Sm; unfold Sm at hs; omega) (by omega)
  have e1 : a.fdiv (Int.gcd a b : Int) = a / (Int.gcd a b : Int) := Int.fdiv_eq_ediv_of_nonneg _ (by omega)
  have e2 : b.fdiv (Int.gcd a b : Int) = b / (Int.gcd a b : Int) := Int.fdiv_eq_ediv_of_nonneg _ (by omega)
  have main := whF_inv (c := xT (cfg P k) (.cmp .Gt (.var 3) (.int 0))) (b := xB (cfg P k) (.cons (.asg (.name 4) (.bin .Mod (.var 2) (.var 3))) (.cons (.asg (.name 2) (.var 3)) (.cons (.asg (.name 3) (.var 4)) .nil))))
    (fun m σ h' => ∃ (x y : Nat) (r : Option MV), σ = [some (.int a), some (.int b), some (.int x), some (.int y), r] ∧ h' = h ∧ m = y ∧ Nat.gcd x y = Int.gcd a b)
    (fun o => ∃ (y : MV) (r : Option MV), o = .nx [some (.int a), some (.int b), some (.int (Int.gcd a b)), some y, r] h) ?_ b.natAbs [some (.int a), some (.int b), some (.int a.natAbs), some (.int b.natAbs), none] h ⟨a.natAbs, b.natAbs, none, rfl, rfl, rfl, rfl⟩
  · obtain ⟨y, r, e⟩ := main
    have hbb : (b.natAbs : Int) = b := by omega
    have ew : xS (cfg P k) (.wh (.cmp .Gt (.var 3) (.int 0)) (.cons (.asg (.name 4) (.bin .Mod (.var 2) (.var 3))) (.cons (.asg (.name 2) (.var 3)) (.cons (.asg (.name 3) (.var 4)) .nil)))) [some (.int a), some (.int b), some (.int a.natAbs), some (.int b), none] h = .nx [some (.int a), some (.int b), some (.int (Int.gcd a b)), some y, r] h := by
      rw [xS_wh, ← e, hbb]
    simp only [f_law_part, b_law_part]
    simp only [FnD.start, FnD.fill, bfn, xB_cons, xS_asgN, xE_bf, xEs_cons, xEs_nil, xE_var, bind_ok, out_ok, seq_nx, List.drop_nil, List.append_nil, List.length_nil, List.map_cons, List.map_nil, List.replicate, List.cons_append, List.nil_append, List.getElem?_cons_zero, List.getElem?_cons_succ, List.set_cons_succ, List.set_cons_zero, abs_eq, ew]
    simp [binop, hd, e1, e2]
  · rintro m σ h' ⟨x, y, r, rfl, rfl, rfl, hg⟩
    by_cases hy : m = 0
    · subst hy
      left
      rw [Nat.gcd_zero_right] at hg
      exact ⟨h', by simp [xT_eq], .int 0, r, by rw [hg]; rfl⟩
    · right
      refine ⟨h', by simp [xT_eq]; omega, .inl ⟨[some (.int a), some (.int b), some (.int m), some (.int ((x % m : Nat) : Int)), some (.int ((x % m : Nat) : Int))], h', x % m, Nat.mod_lt _ (by omega), .inl ?_, m, x % m, _, rfl, rfl, rfl, ?_⟩⟩
      · have : (m : Int) ≠ 0 := by omega
        have e : (x : Int).fmod (m : Int) = ((x % m : Nat) : Int) := by
          rw [Int.fmod_eq_emod_of_nonneg _ (by omega)]
          rfl
        simp [binop, this, hy, e]
      · rw [Nat.gcd_comm m, ← Nat.gcd_rec, Nat.gcd_comm]
        exact hg
end K69
namespace K69
open PySem Mi
theorem sm_of {a : Int} (h : a.natAbs ≤ 10 ^ 40) : Sm a := by
  unfold Sm
  have : (10 : Nat) ^ 40 < 2 ^ 2000 := by decide +kernel
  omega
theorem fdiv_pos {a b : Int} (h : 0 < b) : a.fdiv b = a / b := Int.fdiv_eq_ediv_of_nonneg _ (by omega)
theorem fmod_pos {a b : Int} (h : 0 < b) : a.fmod b = a % b := Int.fmod_eq_emod_of_nonneg _ (by omega)
theorem div_lit {a b : Int} {h : MH} (hb : 0 < b) (hs : b.natAbs ≤ 10 ^ 40) : binop .FloorDiv (.int a) (.int b) h = .ok (.int (a / b)) h := by
  have hd : DivOk b := (sm_of hs).div (by omega)
  simp only [binop, hd, if_true, fdiv_pos hb]
theorem mod_lit {a b : Int} {h : MH} (hb : 0 < b) : binop .Mod (.int a) (.int b) h = .ok (.int (a % b)) h := by
  have h0 : b ≠ 0 := by omega
  simp only [binop, ne_eq, h0, not_false_eq_true, if_true, fmod_pos hb]
theorem mul_lit {a b : Int} {h : MH} (ha : a.natAbs ≤ 10 ^ 40) (hb : b.natAbs ≤ 10 ^ 40) : binop .Mult (.int a) (.int b) h = .ok (.int (a * b)) h := by
  simp only [binop, (sm_of ha).mul (sm_of hb), if_true]
theorem pow30 {h : MH} : binop .Pow (.int 10) (.int 30) h = .ok (.int (10 ^ 30)) h := by
  have c : (0 : Int) ≤ 30 ∧ (30 : Int) ≤ 1000000 ∧ (10 : Int).natAbs < 2 ^ 64 := by decide
  simp only [binop]
  rw [if_pos c]
  rfl
theorem pow29 {h : MH} : binop .Pow (.int 10) (.int 29) h = .ok (.int (10 ^ 29)) h := by
  have c : (0 : Int) ≤ 29 ∧ (29 : Int) ≤ 1000000 ∧ (10 : Int).natAbs < 2 ^ 64 := by decide
  simp only [binop]
  rw [if_pos c]
  rfl
theorem c_sh {k : Nat} {h : MH} (c : Int) : ∃ s, callN P (k + 2) 22 [.int c] h = .ok (fr s) h ∧ Fr BB 1 0 s ∧ 0 < s.1 := by
  generalize hq : c / 16 = q
  have hm : (0 : Int) < 10 ^ 30 - 4 := by decide
  generalize hb : 4 + q % (10 ^ 30 - 4) = b
  have b1 : 4 ≤ b := by have := Int.emod_nonneg q (show (10 ^ 30 - 4 : Int) ≠ 0 by decide); omega
  have b2 : b < 10 ^ 30 := by have := Int.emod_lt_of_pos q hm; omega
  have h4 : 0 < b / 4 := by omega
  generalize ha : 1 + q % 10 ^ 29 % (b / 4) = a
  have a1 : 1 ≤ a := by have := Int.emod_nonneg (q % 10 ^ 29) (show b / 4 ≠ 0 by omega); omega
  have a2 : 4 * a ≤ b := by
    have := Int.emod_lt_of_pos (q % 10 ^ 29) h4
    omega
  have hF : Fr BB 1 0 (a, b) := ⟨by show 0 < b; omega, by show b ≤ ((BB : Nat) : Int); unfold BB; omega, by show 4 * a ≤ 1 * b; omega, by show -(0 * b) ≤ 4 * a; omega⟩
  have hg : 0 < Int.gcd a b := by
    rw [Int.gcd_pos_iff]
    exact .inl (by omega)
  obtain ⟨x, hx⟩ := Int.gcd_dvd_left (a := a) (b := b)
  have ex : a / (Int.gcd a b : Int) = x := Int.ediv_eq_of_eq_mul_right (by omega) hx
  refine ⟨_, ?_, fr_red hF, ?_⟩
  · rw [call_eq fn_law_share rfl, ← c_part (k := k) (a := a) (b := b) (by omega) (sm_of (by omega))]
    simp only [f_law_share, b_law_share]
    have m1 : ∀ h, binop .Mod (.int q) (.int (10 ^ 30 - 4)) h = .ok (.int (q % (10 ^ 30 - 4))) h := fun h => mod_lit hm
    have m2 : ∀ h, binop .Mod (.int q) (.int (10 ^ 29)) h = .ok (.int (q % 10 ^ 29)) h := fun h => mod_lit (by decide)
    have m3 : ∀ h, binop .Mod (.int (q % 10 ^ 29)) (.int (b / 4)) h = .ok (.int (q % 10 ^ 29 % (b / 4))) h := fun h => mod_lit h4
    have d1 : ∀ h, binop .FloorDiv (.int c) (.int 16) h = .ok (.int q) h := fun h => by rw [← hq]; exact div_lit (by decide) (by decide)
    have d2 : ∀ h, binop .FloorDiv (.int b) (.int 4) h = .ok (.int (b / 4)) h := fun h => div_lit (by decide) (by decide)
    simp [-Int.reducePow, FnD.start, FnD.fill, m1, m2, m3, d1, d2, pow30, pow29, hb, ha]
  · rw [ex]
    refine Int.pos_of_mul_pos_right (a := (Int.gcd a b : Int)) ?_ (by omega)
    rw [← hx]
    omega
/-! ### the dict of takes -/
theorem dget_dput {kvs : List (MV × MV)} {k v k' : MV} : dget (dput kvs k v) k' = if k' = k then some v else dget kvs k' := by
  have fnd : ∀ l : List (MV × MV), (l.map fun p => if p.1 = k then (p.1, v) else p).find? (fun p => decide (p.1 = k')) = if k' = k then (l.find? fun p => decide (p.1 = k)).map (fun p => (p.1, v)) else l.find? (fun p => decide (p.1 = k')) := by
    intro l
    induction l with
    | nil => simp
    | cons p l ih =>
      rw [List.map_cons, List.find?_cons, ih, List.find?_cons, List.find?_cons]
      by_cases e : k' = k
      · subst e
        by_cases e2 : p.1 = k' <;> simp [e2]
      · by_cases e2 : p.1 = k
        · have : ¬ p.1 = k' := fun z => e (z.symm.trans e2)
          have e3 : ¬ k = k' := fun z => e z.symm
          simp [e, e2, e3]
        · simp [e, e2]
  unfold dput dget
  split
  · rename_i ha
    rw [fnd]
    by_cases e : k' = k
    · rw [if_pos e, if_pos e]
      rw [List.any_eq_true] at ha
      obtain ⟨p, hp, hk⟩ := ha
      cases hf : kvs.find? fun p => decide (p.1 = k) with
      | none =>
        rw [List.find?_eq_none] at hf
        exact absurd hk (hf p hp)
      | some q => rfl
    · rw [if_neg e, if_neg e]
  · rename_i ha
    rw [List.find?_append]
    by_cases e : k' = k
    · subst e
      have : kvs.find? (fun p => decide (p.1 = k')) = none := by
        rw [List.find?_eq_none]
        intro p hp hk
        exact ha (List.any_eq_true.mpr ⟨p, hp, hk⟩)
      simp [this]
    · have e3 : ¬ k = k' := fun z => e z.symm
      cases kvs.find? (fun p => decide (p.1 = k')) <;> simp [e, e3]
theorem dget_ddrop {kvs : List (MV × MV)} {k k' : MV} : dget (ddrop kvs k) k' = if k' = k then none else dget kvs k' := by
  unfold ddrop dget
  induction kvs with
  | nil => simp
  | cons p l ih =>
    rw [List.filter_cons]
    by_cases e2 : p.1 = k
    · rw [if_neg (by simp [e2]), ih]
      by_cases e : k' = k
      · simp [e]
      · have : ¬ p.1 = k' := fun z => e (z.symm.trans e2)
        simp [e, List.find?_cons, this]
    · rw [if_pos (by simp [e2]), List.find?_cons, List.find?_cons]
      by_cases e3 : p.1 = k'
      · have : ¬ k' = k := fun z => e2 (e3.trans z)
        simp [e3, this]
      · simp only [e3, decide_false]
        exact ih
structure Kf (n : Nat) (F : Nat → Nat → Int × Int) (kvs : List (MV × MV)) : Prop where
  tup : kvs.all (fun p => isTup p.1) = true
  is_ : ∀ i j : Nat, i < n → j < n → i ≠ j → (dget kvs (.tup [.int i, .int j])).isSome = decide (0 < (F i j).1)
def bF (F : Nat → Nat → Int × Int) (i j : Nat) : Bool := decide (0 < (F i j).1) || decide (0 < (F j i).1)
def tF (F : Nat → Nat → Int × Int) : Int → Int → Bool := T6 (bF F 0 1) (bF F 0 2) (bF F 0 3) (bF F 1 2) (bF F 1 3) (bF F 2 3)
theorem tF_ok {F : Nat → Nat → Int × Int} {i j : Nat} (hi : i < 4) (hj : j < 4) (h : i ≠ j) : tF F i j = bF F i j := by
  have c : ∀ a b, bF F a b = bF F b a := fun a b => by unfold bF; exact Bool.or_comm _ _
  have a : i = 0 ∨ i = 1 ∨ i = 2 ∨ i = 3 := by omega
  have b : j = 0 ∨ j = 1 ∨ j = 2 ∨ j = 3 := by omega
  rcases a with rfl | rfl | rfl | rfl <;> rcases b with rfl | rfl | rfl | rfl <;> first
    | exact absurd rfl h
    | (simp [tF, T6]; done)
    | (simp [tF, T6]; exact c _ _)
theorem tou_F {n : Nat} {F : Nat → Nat → Int × Int} (h : n ≤ 4) : Tou n F (tF F) := fun i j hi hj hij => tF_ok (by omega) (by omega) hij
theorem tak_F {n : Nat} {F : Nat → Nat → Int × Int} {kvs : List (MV × MV)} (h : n ≤ 4) (K : Kf n F kvs) : Tak n (tF F) kvs := by
  refine ⟨K.tup, fun x y hxy => ?_⟩
  simp only [okp, Bool.and_eq_true, decide_eq_true_eq] at hxy
  obtain ⟨⟨⟨⟨h1, h2⟩, h3⟩, h4⟩, h5⟩ := hxy
  obtain ⟨i, rfl⟩ := Int.eq_ofNat_of_zero_le h1
  obtain ⟨j, rfl⟩ := Int.eq_ofNat_of_zero_le h3
  rw [K.is_ i j (by omega) (by omega) (by omega), K.is_ j i (by omega) (by omega) (by omega), tF_ok (by omega) (by omega) (by omega)]
  rfl
/-- the law's state -/
structure St (n D m : Nat) (h : MH) (F : Nat → Nat → Int × Int) (kvs : List (MV × MV)) : Prop where
  H : HoldAt h n F
  g : Good n F
  K : Kf n F kvs
  ed : h[D]? = some (.dic false kvs)
  D_ : D = 5 + 4 * n
  len : kvs.length ≤ m
theorem St.right {k n D m : Nat} {h : MH} {F : Nat → Nat → Int × Int} {kvs : List (MV × MV)} (S : St n D m h F kvs) : ∃ h', callN P (k + 6) 24 [.ref 0, .ref D] h = .ok (.bl true) h' ∧ St n D m h' F kvs := by
  have n4 := S.g.n4
  obtain ⟨xs, xss, e1, e2, hs, hz⟩ := same_n n4 (bF F 0 1) (bF F 0 2) (bF F 0 3) (bF F 1 2) (bF F 1 3) (bF F 2 3)
  have hD := ltP S.ed
  have hd := S.D_
  obtain ⟨h', q1, X⟩ := c_right (k := k) S.H S.g (tou_F n4.2) (tak_F n4.2 S.K) S.ed (by omega) hs e1 e2 hz
  exact ⟨h', q1, S.H.kp (ex := h.length) ⟨X.le, fun a ha _ => X.at_ a ha⟩ (by omega), S.g, S.K, X.get S.ed, S.D_, S.len⟩
theorem key_inj {i j a b : Nat} : (MV.tup [.int (a : Int), .int (b : Int)] = MV.tup [.int (i : Int), .int (j : Int)]) ↔ a = i ∧ b = j := by
  simp only [MV.tup.injEq, List.cons.injEq, MV.int.injEq, and_true]
  omega
/-- a flow is put, the takes follow -/
theorem St.put {n D m i j : Nat} {h : MH} {F : Nat → Nat → Int × Int} {kvs kvs' : List (MV × MV)} (S : St n D m h F kvs) (hi : i < n) (hj : j < n) (hij : i ≠ j) {s : Int × Int} (hs : Fr BB 1 0 s) (ht : kvs'.all (fun p => isTup p.1) = true) (hl : kvs'.length ≤ m + 1)
    (hk : ∀ a b : Nat, (dget kvs' (.tup [.int a, .int b])).isSome = if a = i ∧ b = j then decide (0 < s.1) else (dget kvs (.tup [.int a, .int b])).isSome) :
    St n D (m + 1) ((h.set (8 + 4 * i) (.lst (((List.range n).map fun j => fr (F i j)).set j (fr s)))).set D (.dic false kvs')) (fun a b => if a = i ∧ b = j then s else F a b) kvs' := by
  have hD := ltP S.ed
  have hd := S.D_
  refine ⟨(S.H.put hi).kp (ex := D) (Kp.refl.set (.inl rfl)) (by omega), ⟨S.g.n4, fun a b => ?_, fun a => ?_⟩, ⟨ht, fun a b ha hb hab => ?_⟩, by rw [List.getElem?_set_self (by simpa using hD)], S.D_, hl⟩
  · show Fr BB 1 0 (if a = i ∧ b = j then s else F a b)
    split
    · exact hs
    · exact S.g.fr a b
  · show (if a = i ∧ a = j then s else F a a) = (0, 1)
    rw [if_neg (by omega)]
    exact S.g.diag a
  · rw [hk]
    show _ = decide (0 < (if a = i ∧ b = j then s else F a b).1)
    split
    · rfl
    · exact S.K.is_ a b ha hb hab
end K69
namespace K69
open PySem Mi
theorem set_same {h : MH} {a : Nat} {o : MO} (e : h[a]? = some o) : h.set a o = h := by
  apply List.ext_getElem?
  intro i
  by_cases hi : a = i
  · subst hi
    rw [List.getElem?_set_self (ltP e), e]
  · rw [List.getElem?_set_ne hi]
theorem ddrop_same {kvs : List (MV × MV)} {k : MV} (h : dget kvs k = none) : ddrop kvs k = kvs := by
  unfold ddrop
  rw [List.filter_eq_self]
  intro p hp
  simp only [decide_eq_true_eq]
  intro z
  unfold dget at h
  simp only [Option.map_eq_none_iff, List.find?_eq_none] at h
  exact h p hp (decide_eq_true z)
theorem pop_ok {h : MH} {D : Nat} {kvs : List (MV × MV)} {x y : Int} (e : h[D]? = some (.dic false kvs)) (ht : kvs.all (fun p => isTup p.1) = true) : ∃ v, bmeth .dpop2 (.ref D) [.tup [.int x, .int y], .non] h = .ok v (h.set D (.dic false (ddrop kvs (.tup [.int x, .int y])))) := by
  have hf := fits ht x y
  cases hd : dget kvs (.tup [.int x, .int y]) with
  | none =>
    refine ⟨.non, ?_⟩
    rw [ddrop_same hd, set_same e]
    simp only [bmeth, e, hf, if_true, hd]
  | some w => exact ⟨w, by simp only [bmeth, e, hf, if_true, hd]⟩
theorem drop_tup {kvs : List (MV × MV)} {k : MV} (ht : kvs.all (fun p => isTup p.1) = true) : (ddrop kvs k).all (fun p => isTup p.1) = true := by
  rw [List.all_eq_true] at ht ⊢
  intro p hp
  exact ht p (List.mem_filter.mp hp).1
theorem dput_tup {kvs : List (MV × MV)} {x y : Int} {v : MV} (ht : kvs.all (fun p => isTup p.1) = true) : (dput kvs (.tup [.int x, .int y]) v).all (fun p => isTup p.1) = true := by
  rw [List.all_eq_true] at ht ⊢
  unfold dput
  split
  · intro p hp
    rw [List.mem_map] at hp
    obtain ⟨q, hq, rfl⟩ := hp
    split <;> exact ht q hq
  · intro p hp
    rcases List.mem_append.mp hp with hp | hp
    · exact ht p hp
    · have : p = (.tup [.int x, .int y], v) := by simpa using hp
      subst this
      rfl
theorem dput_len1 (kvs : List (MV × MV)) (k v : MV) : (dput kvs k v).length ≤ kvs.length + 1 := by
  unfold dput
  split
  · simp
  · simp
theorem put_ok {h : MH} {D : Nat} {kvs : List (MV × MV)} {x y : Int} {v : MV} (e : h[D]? = some (.dic false kvs)) (ht : kvs.all (fun p => isTup p.1) = true) (hl : kvs.length ≤ 100) : setIx (.ref D) (.tup [.int x, .int y]) v h = some (h.set D (.dic false (dput kvs (.tup [.int x, .int y]) v))) := by
  have hf := fits ht x y
  have hz : kvs.length < sizeLine := by rw [sizeLine_eq]; omega
  simp only [setIx, e, hf, hz, and_self, if_true]
theorem c_cell' {k : Nat} {h : MH} {ns : List Int} {j : Nat} : callN P (k + 1) 20 [.rol (iL ns), .int (1 + (j : Int))] h = .ok (.int (ns.getD (1 + j) 0)) h := by
  have e : (1 + (j : Int)) = ((1 + j : Nat) : Int) := by omega
  rw [e]
  exact c_cell
abbrev putA : MSs := (.cons (.expr (.meth (.var 1) "put_flow" (.cons (.var 6) (.cons (.var 7) (.cons (.tup (.cons (.int 0) (.cons (.int 1) .nil))) .nil)))))
 (.cons (.expr (.bm .dpop2 (.var 4) (.cons (.tup (.cons (.var 6) (.cons (.var 7) .nil))) (.cons .non .nil))))
 .nil))
abbrev putB : MSs := (.cons (.expr (.meth (.var 1) "put_flow" (.cons (.var 6) (.cons (.var 7) (.cons (.call 22 (.cons (.var 5) .nil)) .nil)))))
 (.cons (.setI (.var 4) (.tup (.cons (.var 6) (.cons (.var 7) .nil))) (.bl true))
 .nil))
abbrev putC : MS := (.ite (.and (.cmp .Eq (.bin .Mod (.bin .FloorDiv (.var 5) (.int 291)) (.int 3)) (.int 0)) (.not (.call 24 (.cons (.var 1) (.cons (.var 4) .nil)))))
 (.cons (.ret (.bl false))
 .nil)
 .nil)
abbrev putI : MS := (.ite (.cmp .Eq (.bin .Mod (.bin .FloorDiv (.var 5) (.int 97)) (.int 3)) (.int 0)) putA putB)
abbrev turnB : MSs := (.cons (.asg (.name 5) (.bin .Add (.call 20 (.cons (.var 0) (.cons (.bin .Add (.int 1) (.var 3)) .nil))) (.bin .Mult (.bin .Mult (.int 48271) (.var 3)) (.var 3))))
 (.cons (.asg (.name 6) (.bin .Mod (.var 5) (.var 2)))
 (.cons (.asg (.name 7) (.bin .Mod (.bin .FloorDiv (.var 5) (.int 4)) (.var 2)))
 (.cons (.ite (.cmp .NotEq (.var 6) (.var 7)) (.cons putI (.cons putC .nil)) .nil)
 .nil))))
section
variable {k n D m : Nat} {h : MH} {F : Nat → Nat → Int × Int} {kvs : List (MV × MV)}
abbrev sg (ns : List Int) (n j D : Nat) (c : Int) (a b : Nat) : MEnv := [some (.rol (iL ns)), some (.ref 0), some (.int n), some (.int j), some (.ref D), some (.int c), some (.int a), some (.int b)]
theorem tA {ns : List Int} {j a b : Nat} {c : Int} (S : St n D m h F kvs) (ha : a < n) (hb : b < n) (hab : a ≠ b) : ∃ h' F' kvs', xB (cfg P (k + 6)) putA (sg ns n j D c a b) h = .nx (sg ns n j D c a b) h' ∧ St n D (m + 1) h' F' kvs' := by
  have hs : Fr BB 1 0 (0, 1) := ⟨by decide, by decide, by decide, by decide⟩
  have hd := S.D_
  have m1 : xE (cfg P (k + 6)) (.meth (.var 1) "put_flow" (.cons (.var 6) (.cons (.var 7) (.cons (.tup (.cons (.int 0) (.cons (.int 1) .nil))) .nil)))) (sg ns n j D c a b) h = .ok .non (h.set (8 + 4 * a) (.lst (((List.range n).map fun j => fr (F a j)).set b (fr (0, 1))))) := by
    rw [xE_meth (h1 := h) (h2 := h) (nn := 0) (kk := 8) (f := 13) (vs := [.int a, .int b, fr (0, 1)]) (by simp) S.H.ins rfl rfl (by simp)]
    exact c_put_flow (k := k + 1) S.H S.g ha hb hab hs
  have ed1 : (h.set (8 + 4 * a) (.lst (((List.range n).map fun j => fr (F a j)).set b (fr (0, 1)))))[D]? = some (.dic false kvs) := by
    rw [List.getElem?_set_ne (by have := S.g.n4; omega)]
    exact S.ed
  obtain ⟨v, e2⟩ := pop_ok (x := (a : Int)) (y := (b : Int)) ed1 S.K.tup
  refine ⟨_, _, _, ?_, S.put ha hb hab hs (drop_tup (k := .tup [.int a, .int b]) S.K.tup) (Nat.le_trans (List.length_filter_le _ _) (by have := S.len; omega)) fun x y => ?_⟩
  · have m2 : xE (cfg P (k + 6)) (.bm .dpop2 (.var 4) (.cons (.tup (.cons (.var 6) (.cons (.var 7) .nil))) (.cons .non .nil))) (sg ns n j D c a b) (h.set (8 + 4 * a) (.lst (((List.range n).map fun j => fr (F a j)).set b (fr (0, 1))))) = .ok v ((h.set (8 + 4 * a) (.lst (((List.range n).map fun j => fr (F a j)).set b (fr (0, 1))))).set D (.dic false (ddrop kvs (.tup [.int a, .int b])))) := by
      rw [xE_bm (h1 := h.set (8 + 4 * a) (.lst (((List.range n).map fun j => fr (F a j)).set b (fr (0, 1))))) (h2 := h.set (8 + 4 * a) (.lst (((List.range n).map fun j => fr (F a j)).set b (fr (0, 1))))) (v := .ref D) (vs := [.tup [.int a, .int b], .non]) (k := 1) (by simp) (kind_dic ed1) rfl (by simp) (kind_dic ed1), e2]
    rw [xB_cons, xS_expr, m1, out_ok, seq_nx, xB_cons, xS_expr, m2, out_ok, seq_nx, xB_nil]
  · rw [dget_ddrop]
    by_cases e : x = a ∧ y = b
    · rw [if_pos (key_inj.mpr e), if_pos e]
      rfl
    · rw [if_neg (fun z => e (key_inj.mp z)), if_neg e]
theorem tB {ns : List Int} {j a b : Nat} {c : Int} (S : St n D m h F kvs) (ha : a < n) (hb : b < n) (hab : a ≠ b) (hm : m ≤ 60) : ∃ h' F' kvs', xB (cfg P (k + 6)) putB (sg ns n j D c a b) h = .nx (sg ns n j D c a b) h' ∧ St n D (m + 1) h' F' kvs' := by
  obtain ⟨s, es, hs, hp⟩ := c_sh (k := k + 4) (h := h) c
  have hd := S.D_
  have m1 : xE (cfg P (k + 6)) (.meth (.var 1) "put_flow" (.cons (.var 6) (.cons (.var 7) (.cons (.call 22 (.cons (.var 5) .nil)) .nil)))) (sg ns n j D c a b) h = .ok .non (h.set (8 + 4 * a) (.lst (((List.range n).map fun j => fr (F a j)).set b (fr s)))) := by
    have es' : callN P (k + 6) 22 [.int c] h = .ok (fr s) h := es
    rw [xE_meth (h1 := h) (h2 := h) (nn := 0) (kk := 8) (f := 13) (vs := [.int a, .int b, fr s]) (by simp) S.H.ins rfl rfl (by simp [es'])]
    exact c_put_flow (k := k + 1) S.H S.g ha hb hab hs
  have ed1 : (h.set (8 + 4 * a) (.lst (((List.range n).map fun j => fr (F a j)).set b (fr s))))[D]? = some (.dic false kvs) := by
    rw [List.getElem?_set_ne (by have := S.g.n4; omega)]
    exact S.ed
  have e2 := put_ok (x := (a : Int)) (y := (b : Int)) (v := .bl true) ed1 S.K.tup (by have := S.len; omega)
  refine ⟨_, _, _, ?_, S.put ha hb hab hs (dput_tup (x := a) (y := b) (v := .bl true) S.K.tup) (Nat.le_trans (dput_len1 _ _ _) (by have := S.len; omega)) fun x y => ?_⟩
  · rw [xB_cons, xS_expr, m1, out_ok, seq_nx, xB_cons]
    simp [e2]
  · rw [dget_dput]
    by_cases e : x = a ∧ y = b
    · rw [if_pos (key_inj.mpr e), if_pos e]
      simp [hp]
    · rw [if_neg (fun z => e (key_inj.mp z)), if_neg e]
theorem tC {ns : List Int} {j a b : Nat} {c : Int} (S : St n D m h F kvs) : ∃ h', xS (cfg P (k + 6)) putC (sg ns n j D c a b) h = .nx (sg ns n j D c a b) h' ∧ St n D m h' F kvs := by
  have d1 : binop .FloorDiv (.int c) (.int 291) h = .ok (.int (c / 291)) h := div_lit (by decide) (by decide)
  have d2 : binop .Mod (.int (c / 291)) (.int 3) h = .ok (.int (c / 291 % 3)) h := mod_lit (by decide)
  by_cases e : c / 291 % 3 = 0
  · obtain ⟨h', q1, S'⟩ := S.right (k := k)
    exact ⟨h', by simp [xT_eq, d1, d2, e, q1], S'⟩
  · exact ⟨h, by simp [xT_eq, d1, d2, e], S⟩
theorem turn {ns : List Int} {j : Nat} {r5 r6 r7 : Option MV} (S : St n D m h F kvs) (hj : j ≤ 60) (hm : m ≤ 60) :
    ∃ a5 a6 a7 h' F' kvs', xB (cfg P (k + 6)) turnB [some (.rol (iL ns)), some (.ref 0), some (.int n), some (.int j), some (.ref D), r5, r6, r7] h = .nx [some (.rol (iL ns)), some (.ref 0), some (.int n), some (.int j), some (.ref D), a5, a6, a7] h' ∧ St n D (m + 1) h' F' kvs' := by
  have n4 := S.g.n4
  generalize hc : ns.getD (1 + j) 0 + 48271 * (j : Int) * (j : Int) = c
  have np : (0 : Int) < n := by omega
  obtain ⟨a, ea⟩ := Int.eq_ofNat_of_zero_le (Int.emod_nonneg c (show (n : Int) ≠ 0 by omega))
  obtain ⟨b, eb⟩ := Int.eq_ofNat_of_zero_le (Int.emod_nonneg (c / 4) (show (n : Int) ≠ 0 by omega))
  have ha : a < n := by have := Int.emod_lt_of_pos c np; omega
  have hb : b < n := by have := Int.emod_lt_of_pos (c / 4) np; omega
  have x1 : xE (cfg P (k + 6)) (.bin .Add (.call 20 (.cons (.var 0) (.cons (.bin .Add (.int 1) (.var 3)) .nil))) (.bin .Mult (.bin .Mult (.int 48271) (.var 3)) (.var 3))) [some (.rol (iL ns)), some (.ref 0), some (.int n), some (.int j), some (.ref D), r5, r6, r7] h = .ok (.int c) h := by
    have p1 : binop .Mult (.int 48271) (.int j) h = .ok (.int (48271 * j)) h := mul_lit (by decide) (by omega)
    have p2 : binop .Mult (.int (48271 * j)) (.int j) h = .ok (.int (48271 * j * j)) h := mul_lit (by omega) (by omega)
    have cc := c_cell' (k := k + 5) (h := h) (ns := ns) (j := j)
    simp [-List.getD_eq_getElem?_getD, cc, p1, p2, hc]
  have x2 : ∀ r6 r7, xE (cfg P (k + 6)) (.bin .Mod (.var 5) (.var 2)) [some (.rol (iL ns)), some (.ref 0), some (.int n), some (.int j), some (.ref D), some (.int c), r6, r7] h = .ok (.int a) h := fun r6 r7 => by
    have p1 : binop .Mod (.int c) (.int n) h = .ok (.int a) h := by rw [mod_lit np, ea]
    simp [p1]
  have x3 : ∀ r6 r7, xE (cfg P (k + 6)) (.bin .Mod (.bin .FloorDiv (.var 5) (.int 4)) (.var 2)) [some (.rol (iL ns)), some (.ref 0), some (.int n), some (.int j), some (.ref D), some (.int c), r6, r7] h = .ok (.int b) h := fun r6 r7 => by
    have p0 : binop .FloorDiv (.int c) (.int 4) h = .ok (.int (c / 4)) h := div_lit (by decide) (by decide)
    have p1 : binop .Mod (.int (c / 4)) (.int n) h = .ok (.int b) h := by rw [mod_lit np, eb]
    simp [p0, p1]
  have start : ∀ o, xB (cfg P (k + 6)) (.cons (.ite (.cmp .NotEq (.var 6) (.var 7)) (.cons putI (.cons putC .nil)) .nil) .nil) (sg ns n j D c a b) h = o → xB (cfg P (k + 6)) turnB [some (.rol (iL ns)), some (.ref 0), some (.int n), some (.int j), some (.ref D), r5, r6, r7] h = o := fun o e => by
    rw [xB_cons, xS_asgN, x1, out_ok, seq_nx, xB_cons, xS_asgN]
    show (((xE (cfg P (k + 6)) (.bin .Mod (.var 5) (.var 2)) [some (.rol (iL ns)), some (.ref 0), some (.int n), some (.int j), some (.ref D), some (.int c), r6, r7] h).out _ _).seq _) = _
    rw [x2, out_ok, seq_nx, xB_cons, xS_asgN]
    show (((xE (cfg P (k + 6)) (.bin .Mod (.bin .FloorDiv (.var 5) (.int 4)) (.var 2)) [some (.rol (iL ns)), some (.ref 0), some (.int n), some (.int j), some (.ref D), some (.int c), some (.int a), r7] h).out _ _).seq _) = _
    rw [x3, out_ok, seq_nx]
    exact e
  by_cases hab : a = b
  · refine ⟨some (.int c), some (.int a), some (.int b), h, F, kvs, start _ ?_, S.H, S.g, S.K, S.ed, S.D_, by have := S.len; omega⟩
    have : ((a : Int) = (b : Int)) := by omega
    simp [xT_eq, this]
  · have hab' : ¬ ((a : Int) = (b : Int)) := by omega
    have d1 : binop .FloorDiv (.int c) (.int 97) h = .ok (.int (c / 97)) h := div_lit (by decide) (by decide)
    have d2 : binop .Mod (.int (c / 97)) (.int 3) h = .ok (.int (c / 97 % 3)) h := mod_lit (by decide)
    have inner : ∃ h' F' kvs', xS (cfg P (k + 6)) putI (sg ns n j D c a b) h = .nx (sg ns n j D c a b) h' ∧ St n D (m + 1) h' F' kvs' := by
      have ct : xT (cfg P (k + 6)) (.cmp .Eq (.bin .Mod (.bin .FloorDiv (.var 5) (.int 97)) (.int 3)) (.int 0)) (sg ns n j D c a b) h = .ok (decide (c / 97 % 3 = 0)) h := by
        simp [xT_eq, d1, d2]
      by_cases e : c / 97 % 3 = 0
      · obtain ⟨h', F', kvs', q1, S'⟩ := tA (k := k) (ns := ns) (j := j) (c := c) S ha hb hab
        exact ⟨h', F', kvs', by rw [xS_ite, ct, out_ok, decide_eq_true e, ifO_t, q1], S'⟩
      · obtain ⟨h', F', kvs', q1, S'⟩ := tB (k := k) (ns := ns) (j := j) (c := c) S ha hb hab hm
        exact ⟨h', F', kvs', by rw [xS_ite, ct, out_ok, decide_eq_false e, ifO_f, q1], S'⟩
    obtain ⟨h1, F1, kvs1, q1, S1⟩ := inner
    obtain ⟨h2, q2, S2⟩ := tC (k := k) (ns := ns) (j := j) (a := a) (b := b) (c := c) S1
    refine ⟨some (.int c), some (.int a), some (.int b), h2, F1, kvs1, start _ ?_, S2⟩
    have ct : xT (cfg P (k + 6)) (.cmp .NotEq (.var 6) (.var 7)) (sg ns n j D c a b) h = .ok true h := by simp [xT_eq, hab']
    rw [xB_cons, xS_ite, ct, out_ok, ifO_t, xB_cons, q1, seq_nx, xB_cons, q2, seq_nx, xB_nil, seq_nx, xB_nil]
end
end K69
namespace K69
open PySem Mi
abbrev lpIt : MI := .rng (.cons (.var 2) .nil)
abbrev rmB : MSs := (.cons (.expr (.meth (.var 1) "put_room" (.cons (.lst (.cons (.tup (.cons (.var 3) (.cons (.int 1) .nil))) (.cons (.tup (.cons (.bin .Add (.var 3) (.int 1)) (.cons (.int 1) .nil))) .nil))) .nil)))
 .nil)
section
variable {k : Nat}
theorem hp_len {n : Nat} (h : n ≤ 4) : (hp n).length = 5 + 4 * n := by
  have : n = 0 ∨ n = 1 ∨ n = 2 ∨ n = 3 ∨ n = 4 := by omega
  rcases this with rfl | rfl | rfl | rfl | rfl <;> rfl
theorem room_step {q : Nat} (hq : q < 4) {σ : MEnv} (e1 : σ[1]? = some (some (.ref 0))) (e3 : σ[3]? = some (some (.int (q : Int)))) : xB (cfg P (k + 6)) rmB σ (hp q) = .nx σ (hp (q + 1)) := by
  have ins : (hp q ++ [MO.lst [fr ((q : Int), 1), fr ((q : Int) + 1, 1)]])[0]? = some (.ins 8 [("most", .int 4), ("cap", .int 0), ("load", .int 0), ("my_marks", .ref 1), ("my_flows", .ref 2), ("my_skies", .ref 3), ("my_stoves", .ref 4)]) := by simp [hp]
  have ins0 : (hp q)[0]? = some (.ins 8 [("most", .int 4), ("cap", .int 0), ("load", .int 0), ("my_marks", .ref 1), ("my_flows", .ref 2), ("my_skies", .ref 3), ("my_stoves", .ref 4)]) := by simp [hp]
  have m1 : xE (cfg P (k + 6)) (.meth (.var 1) "put_room" (.cons (.lst (.cons (.tup (.cons (.var 3) (.cons (.int 1) .nil))) (.cons (.tup (.cons (.bin .Add (.var 3) (.int 1)) (.cons (.int 1) .nil))) .nil))) .nil)) σ (hp q) = .ok (.int q) (hp (q + 1)) := by
    rw [xE_meth (h1 := hp q) (h2 := hp q ++ [MO.lst [fr ((q : Int), 1), fr ((q : Int) + 1, 1)]]) (nn := 0) (kk := 8) (f := 12) (vs := [.ref (5 + 4 * q)]) (by simp [e1]) ins0 rfl rfl (by simp [e3, hp_len (show q ≤ 4 by omega)])]
    have : q = 0 ∨ q = 1 ∨ q = 2 ∨ q = 3 := by omega
    rcases this with rfl | rfl | rfl | rfl
    · exact c_room0 (k := k + 3)
    · exact c_room1 (k := k + 3)
    · exact c_room2 (k := k + 3)
    · exact c_room3 (k := k + 3)
  rw [xB_cons, xS_expr, m1, out_ok, seq_nx, xB_nil]
theorem rng_okN {n : Nat} (h : n ≤ 100) : rngOf [.int (n : Int)] = some (rangeV 0 n) := by
  have h1 : -(2 ^ 62 : Int) ≤ (n : Int) := by omega
  have h2 : (n : Int) < 2 ^ 62 := Int.lt_of_le_of_lt (show (n : Int) ≤ 100 by omega) (by decide)
  simp only [rngOf, h1, h2, and_self, if_true, Int.toNat_natCast]
theorem rangeV_drop {n j : Nat} (h : j < n) : (rangeV 0 n).drop j = .int (j : Int) :: (rangeV 0 n).drop (j + 1) := by
  have hl : j < (rangeV 0 n).length := by simp [rangeV, h]
  rw [List.drop_eq_getElem_cons hl]
  simp [rangeV]
theorem rangeV_len (n : Nat) : (rangeV 0 n).length = n := by simp [rangeV]
theorem rooms {n : Nat} (hn : n ≤ 4) {r0 r4 r5 r6 r7 r3 : Option MV} : ∃ r3', xS (cfg P (k + 6)) (.loop (.name 3) lpIt rmB) [r0, some (.ref 0), some (.int n), r3, r4, r5, r6, r7] (hp 0) = .nx [r0, some (.ref 0), some (.int n), r3', r4, r5, r6, r7] (hp n) := by
  have ei : xI (cfg P (k + 6)) lpIt [r0, some (.ref 0), some (.int n), r3, r4, r5, r6, r7] (hp 0) = .ok (rangeV 0 n, .free) (hp 0) := xI_rng (ws := [.int n]) (by simp) (rng_okN (by omega))
  have main := loopF_inv (g := .free) (step := fun v σ h => (match setT (.name 3) v σ with
      | some σ' => xB (cfg P (k + 6)) rmB σ' h
      | none => .bad)) (fun vs σ h => ∃ j r3, j ≤ n ∧ vs = (rangeV 0 n).drop j ∧ σ = [r0, some (.ref 0), some (.int n), r3, r4, r5, r6, r7] ∧ h = hp j)
    (fun o => ∃ r3', o = .nx [r0, some (.ref 0), some (.int n), r3', r4, r5, r6, r7] (hp n)) (fun _ _ _ _ => rfl) ?_ ?_ (rangeV 0 n) [r0, some (.ref 0), some (.int n), r3, r4, r5, r6, r7] (hp 0) ⟨0, r3, by omega, by simp, rfl, rfl⟩
  · obtain ⟨r3', e⟩ := main
    exact ⟨r3', by rw [xS_loop ei (fun _ => by simp)]; exact e⟩
  · rintro σ h ⟨j, r3, hj, e, rfl, rfl⟩
    have : j = n := by
      have := congrArg List.length e
      rw [List.length_drop, rangeV_len] at this
      simp at this
      omega
    subst this
    exact ⟨r3, rfl⟩
  · rintro v vs σ h ⟨j, r3, hj, e, rfl, rfl⟩
    have hjn : j < n := by
      have := congrArg List.length e
      rw [List.length_drop, rangeV_len] at this
      simp at this
      omega
    rw [rangeV_drop hjn] at e
    cases e
    left
    refine ⟨[r0, some (.ref 0), some (.int n), some (.int j), r4, r5, r6, r7], hp (j + 1), .inl ?_, j + 1, some (.int j), hjn, rfl, rfl, rfl⟩
    simp only [setT, List.set_cons_succ, List.set_cons_zero]
    exact room_step (k := k) (by omega) (by simp) (by simp)
theorem hold0 {n : Nat} (hn : 1 ≤ n ∧ n ≤ 4) : HoldAt (hp n ++ [MO.dic false []]) n (fun _ _ => (0, 1)) := by
  have : n = 1 ∨ n = 2 ∨ n = 3 ∨ n = 4 := by omega
  rcases this with rfl | rfl | rfl | rfl
  · exact ⟨by simp [hp], ⟨_, by simp [hp]; rfl, by simp⟩, by simp [hp], by simp [hp], fun i hi => by
      have : i = 0 := by omega
      rcases this with rfl <;> simp [hp, List.range, List.range.loop, List.replicate]⟩
  · exact ⟨by simp [hp], ⟨_, by simp [hp]; rfl, by simp⟩, by simp [hp], by simp [hp], fun i hi => by
      have : i = 0 ∨ i = 1 := by omega
      rcases this with rfl | rfl <;> simp [hp, List.range, List.range.loop, List.replicate]⟩
  · exact ⟨by simp [hp], ⟨_, by simp [hp]; rfl, by simp⟩, by simp [hp], by simp [hp], fun i hi => by
      have : i = 0 ∨ i = 1 ∨ i = 2 := by omega
      rcases this with rfl | rfl | rfl <;> simp [hp, List.range, List.range.loop, List.replicate]⟩
  · exact ⟨by simp [hp], ⟨_, by simp [hp]; rfl, by simp⟩, by simp [hp], by simp [hp], fun i hi => by
      have : i = 0 ∨ i = 1 ∨ i = 2 ∨ i = 3 := by omega
      rcases this with rfl | rfl | rfl | rfl <;> simp [hp, List.range, List.range.loop, List.replicate]⟩
theorem st0 {n : Nat} (hn : 1 ≤ n ∧ n ≤ 4) : St n (5 + 4 * n) 0 (hp n ++ [MO.dic false []]) (fun _ _ => (0, 1)) [] := by
  refine ⟨hold0 hn, ⟨hn, fun _ _ => ⟨by decide, by decide, by decide, by decide⟩, fun _ => rfl⟩, ⟨rfl, fun i j _ _ _ => by simp [dget]⟩, ?_, rfl, Nat.le_refl _⟩
  rw [← hp_len hn.2]
  simp
theorem turns {ns : List Int} {n mm : Nat} (hn : 1 ≤ n ∧ n ≤ 4) (hm : mm ≤ 40) {r3 r5 r6 r7 : Option MV} {it : MI} (ei : xI (cfg P (k + 6)) it [some (.rol (iL ns)), some (.ref 0), some (.int n), r3, some (.ref (5 + 4 * n)), r5, r6, r7] (hp n ++ [MO.dic false []]) = .ok (rangeV 0 mm, .free) (hp n ++ [MO.dic false []])) :
    ∃ r3' r5' r6' r7' h F kvs, xS (cfg P (k + 6)) (.loop (.name 3) it turnB) [some (.rol (iL ns)), some (.ref 0), some (.int n), r3, some (.ref (5 + 4 * n)), r5, r6, r7] (hp n ++ [MO.dic false []]) = .nx [some (.rol (iL ns)), some (.ref 0), some (.int n), r3', some (.ref (5 + 4 * n)), r5', r6', r7'] h ∧ St n (5 + 4 * n) mm h F kvs := by
  have main := loopF_inv (g := .free) (step := fun v σ h => (match setT (.name 3) v σ with
      | some σ' => xB (cfg P (k + 6)) turnB σ' h
      | none => .bad)) (fun vs σ h => ∃ j r3 r5 r6 r7 F kvs, j ≤ mm ∧ vs = (rangeV 0 mm).drop j ∧ σ = [some (.rol (iL ns)), some (.ref 0), some (.int n), r3, some (.ref (5 + 4 * n)), r5, r6, r7] ∧ St n (5 + 4 * n) j h F kvs)
    (fun o => ∃ r3' r5' r6' r7' h F kvs, o = .nx [some (.rol (iL ns)), some (.ref 0), some (.int n), r3', some (.ref (5 + 4 * n)), r5', r6', r7'] h ∧ St n (5 + 4 * n) mm h F kvs) (fun _ _ _ _ => rfl) ?_ ?_ (rangeV 0 mm) [some (.rol (iL ns)), some (.ref 0), some (.int n), r3, some (.ref (5 + 4 * n)), r5, r6, r7] (hp n ++ [MO.dic false []]) ⟨0, r3, r5, r6, r7, _, _, by omega, by simp, rfl, st0 hn⟩
  · obtain ⟨r3', r5', r6', r7', h, F, kvs, e, S⟩ := main
    exact ⟨r3', r5', r6', r7', h, F, kvs, by rw [xS_loop ei (fun _ => by simp)]; exact e, S⟩
  · rintro σ h ⟨j, r3, r5, r6, r7, F, kvs, hj, e, rfl, S⟩
    have : j = mm := by
      have := congrArg List.length e
      rw [List.length_drop, rangeV_len] at this
      simp at this
      omega
    subst this
    exact ⟨r3, r5, r6, r7, h, F, kvs, rfl, S⟩
  · rintro v vs σ h ⟨j, r3, r5, r6, r7, F, kvs, hj, e, rfl, S⟩
    have hjn : j < mm := by
      have := congrArg List.length e
      rw [List.length_drop, rangeV_len] at this
      simp at this
      omega
    rw [rangeV_drop hjn] at e
    cases e
    left
    obtain ⟨a5, a6, a7, h', F', kvs', q, S'⟩ := turn (k := k) (ns := ns) (j := j) (r5 := r5) (r6 := r6) (r7 := r7) S (by omega) (by omega)
    refine ⟨_, h', .inl ?_, j + 1, some (.int j), a5, a6, a7, F', kvs', hjn, rfl, rfl, S'⟩
    simp only [setT, List.set_cons_succ, List.set_cons_zero]
    exact q
abbrev rnE : ME := .bin .Add (.int 4) (.bin .Mod (.bin .FloorDiv (.call 20 (.cons (.var 0) (.cons (.int 0) .nil))) (.int 4)) (.int 21))
/-- the law holds over the mini meaning -/
theorem law_mini (ns : List Int) : ∃ h', callN P (k + 7) 25 [.rol (ns.map .int)] [] = .ok (.bl true) h' := by
  generalize hc : ns.getD 0 0 = c
  have cell : ∀ h, callN P (k + 6) 20 [.rol (iL ns), .int 0] h = .ok (.int c) h := fun h => by
    rw [← hc]
    exact c_cell (k := k + 5) (i := 0)
  obtain ⟨q, eq⟩ := Int.eq_ofNat_of_zero_le (Int.emod_nonneg c (show (4 : Int) ≠ 0 by omega))
  have hq : q < 4 := by have := Int.emod_lt_of_pos c (show (0 : Int) < 4 by omega); omega
  obtain ⟨u, eu⟩ := Int.eq_ofNat_of_zero_le (Int.emod_nonneg (c / 4) (show (21 : Int) ≠ 0 by omega))
  have hu : u < 21 := by have := Int.emod_lt_of_pos (c / 4) (show (0 : Int) < 21 by omega); omega
  have hn : 1 ≤ 1 + q ∧ 1 + q ≤ 4 := by omega
  have mk : xE (cfg P (k + 6)) (.make 8 .nil) [some (.rol (iL ns)), none, none, none, none, none, none, none] [] = .ok (.ref 0) (hp 0) := by
    have hm : P.meth 8 "__init__" = some 9 := rfl
    have ci := c_init (k := k + 4)
    simp only [xE, xEs_nil, bind_ok, hm, List.length_nil, List.nil_append]
    show (callN P (k + 6) 9 [.ref 0] [.ins 8 []]).bind _ = _
    rw [show callN P (k + 6) 9 [.ref 0] [.ins 8 []] = .ok .non (hp 0) from ci]
    rfl
  have s2 : xE (cfg P (k + 6)) (.bin .Add (.int 1) (.bin .Mod (.call 20 (.cons (.var 0) (.cons (.int 0) .nil))) (.int 4))) [some (.rol (iL ns)), some (.ref 0), none, none, none, none, none, none] (hp 0) = .ok (.int ((1 + q : Nat) : Int)) (hp 0) := by
    have p1 : binop .Mod (.int c) (.int 4) (hp 0) = .ok (.int q) (hp 0) := by rw [mod_lit (by decide), eq]
    simp [cell, p1]
  obtain ⟨r3, s3⟩ := rooms (k := k) (n := 1 + q) hn.2 (r0 := some (.rol (iL ns))) (r4 := none) (r5 := none) (r6 := none) (r7 := none) (r3 := none)
  have s5 : xI (cfg P (k + 6)) (.rng (.cons rnE .nil)) [some (.rol (iL ns)), some (.ref 0), some (.int ((1 + q : Nat) : Int)), r3, some (.ref (5 + 4 * (1 + q))), none, none, none] (hp (1 + q) ++ [MO.dic false []]) = .ok (rangeV 0 (4 + u), .free) (hp (1 + q) ++ [MO.dic false []]) := by
    refine xI_rng (ws := [.int ((4 + u : Nat) : Int)]) ?_ (rng_okN (by omega))
    have p0 : ∀ h, binop .FloorDiv (.int c) (.int 4) h = .ok (.int (c / 4)) h := fun h => div_lit (by decide) (by decide)
    have p1 : ∀ h, binop .Mod (.int (c / 4)) (.int 21) h = .ok (.int u) h := fun h => by rw [mod_lit (by decide), eu]
    simp [cell, p0, p1]
  obtain ⟨r3', r5', r6', r7', h, F, kvs, s6, S⟩ := turns (k := k) (ns := ns) hn (by omega) s5
  obtain ⟨h', s7, _⟩ := S.right (k := k)
  refine ⟨h', ?_⟩
  rw [call_eq fn_law rfl]
  simp only [f_law, b_law]
  show (xB (cfg P (k + 6)) (.cons (.asg (.name 1) (.make 8 .nil)) (.cons (.asg (.name 2) (.bin .Add (.int 1) (.bin .Mod (.call 20 (.cons (.var 0) (.cons (.int 0) .nil))) (.int 4)))) (.cons (.loop (.name 3) lpIt rmB) (.cons (.asg (.name 4) .dic0) (.cons (.loop (.name 3) (.rng (.cons rnE .nil)) turnB) (.cons (.ret (.call 24 (.cons (.var 1) (.cons (.var 4) .nil)))) .nil)))))) [some (.rol (iL ns)), none, none, none, none, none, none, none] []).fin = _
  rw [xB_cons, xS_asgN, mk, out_ok, seq_nx, xB_cons, xS_asgN]
  show ((((xE (cfg P (k + 6)) (.bin .Add (.int 1) (.bin .Mod (.call 20 (.cons (.var 0) (.cons (.int 0) .nil))) (.int 4))) [some (.rol (iL ns)), some (.ref 0), none, none, none, none, none, none] (hp 0)).out _ _).seq _).fin) = _
  rw [s2, out_ok, seq_nx, xB_cons]
  show ((xS (cfg P (k + 6)) (.loop (.name 3) lpIt rmB) [some (.rol (iL ns)), some (.ref 0), some (.int ((1 + q : Nat) : Int)), none, none, none, none, none] (hp 0)).seq _).fin = _
  rw [s3, seq_nx, xB_cons, xS_asgN, xE_dic0, out_ok, seq_nx, xB_cons, hp_len hn.2]
  show ((xS (cfg P (k + 6)) (.loop (.name 3) (.rng (.cons rnE .nil)) turnB) [some (.rol (iL ns)), some (.ref 0), some (.int ((1 + q : Nat) : Int)), r3, some (.ref (5 + 4 * (1 + q))), none, none, none] (hp (1 + q) ++ [MO.dic false []])).seq _).fin = _
  rw [s6, seq_nx]
  simp [s7]
end
theorem law_end (ns : List Int) (_ : ns.length ≤ 63) : ∃ h', callN P 7 25 [.rol (ns.map .int)] [] = .ok (.bl true) h' := law_mini (k := 0) ns
end K69
set_option maxHeartbeats 0
namespace K69
open PySem PySem.Spec PyProof.Rows L2 Mi

def top (i : Nat) : Stmt := PySem.Challenge.pw_stoke_k69_parts_of_a_hold.main.body.getD i (.Pass ⟨0, 0, 0, 0⟩)
def T : Tab := ⟨P, [("divisor", 2), ("fraction", 3), ("plus", 4), ("minus", 5), ("under", 6), ("is_bound", 7), ("do_rise", 8), ("is_touching", 17), ("part_by", 18), ("parts_of", 19), ("_law_cell_at", 20), ("_law_part", 21), ("_law_share", 22), ("_law_parts", 23), ("_law_right", 24), ("law", 25)], [("StokeError", 0), ("NoNumber", 1), ("NoHold", 2), ("Full", 3), ("NoMarks", 4), ("TooMany", 5), ("NoRoom", 6), ("NoShare", 7), ("Hold", 8)], ["room", "my_stoves", "my_skies", "my_flows", "my_marks", "load", "cap", "most"], ["abs", "isinstance", "bool", "int", "range", "len", "list", "sorted"]⟩
abbrev s_NoRoom_init : Stmt := (inClass (top 8) 0)
def d_NoRoom_init : He.DefD := ⟨("NoRoom", some "__init__"), "__init__", "NoRoom.__init__", defArgs s_NoRoom_init, defBody s_NoRoom_init, defScope s_NoRoom_init, [], []⟩
def p_NoRoom_init : List Str := ["self", "room"]
def n_NoRoom_init : List Str := ["self", "room"]
abbrev s_NoShare_init : Stmt := (inClass (top 9) 0)
def d_NoShare_init : He.DefD := ⟨("NoShare", some "__init__"), "__init__", "NoShare.__init__", defArgs s_NoShare_init, defBody s_NoShare_init, defScope s_NoShare_init, [], []⟩
def p_NoShare_init : List Str := ["self", "room"]
def n_NoShare_init : List Str := ["self", "room"]
abbrev s_divisor : Stmt := (top 11)
def d_divisor : He.DefD := ⟨("divisor", none), "divisor", "divisor", defArgs s_divisor, defBody s_divisor, defScope s_divisor, [], []⟩
def p_divisor : List Str := ["one", "other"]
def n_divisor : List Str := ["one", "other", "high", "low", "rest"]
abbrev s_fraction : Stmt := (top 12)
def d_fraction : He.DefD := ⟨("fraction", none), "fraction", "fraction", defArgs s_fraction, defBody s_fraction, defScope s_fraction, [], []⟩
def p_fraction : List Str := ["top", "bottom"]
def n_fraction : List Str := ["top", "bottom", "shared"]
abbrev s_plus : Stmt := (top 13)
def d_plus : He.DefD := ⟨("plus", none), "plus", "plus", defArgs s_plus, defBody s_plus, defScope s_plus, [], []⟩
def p_plus : List Str := ["one", "other"]
def n_plus : List Str := ["one", "other"]
abbrev s_minus : Stmt := (top 14)
def d_minus : He.DefD := ⟨("minus", none), "minus", "minus", defArgs s_minus, defBody s_minus, defScope s_minus, [], []⟩
def p_minus : List Str := ["one", "other"]
def n_minus : List Str := ["one", "other"]
abbrev s_under : Stmt := (top 15)
def d_under : He.DefD := ⟨("under", none), "under", "under", defArgs s_under, defBody s_under, defScope s_under, [], []⟩
def p_under : List Str := ["one", "other"]
def n_under : List Str := ["one", "other"]
abbrev s_is_bound : Stmt := (top 19)
def d_is_bound : He.DefD := ⟨("is_bound", none), "is_bound", "is_bound", defArgs s_is_bound, defBody s_is_bound, defScope s_is_bound, [], []⟩
def p_is_bound : List Str := ["thing", "most"]
def n_is_bound : List Str := ["thing", "most"]
abbrev s_do_rise : Stmt := (top 20)
def d_do_rise : He.DefD := ⟨("do_rise", none), "do_rise", "do_rise", defArgs s_do_rise, defBody s_do_rise, defScope s_do_rise, [], []⟩
def p_do_rise : List Str := ["marks"]
def n_do_rise : List Str := ["marks", "k"]
abbrev s_Hold_init : Stmt := (inClass (top 21) 0)
def d_Hold_init : He.DefD := ⟨("Hold", some "__init__"), "__init__", "Hold.__init__", defArgs s_Hold_init, defBody s_Hold_init, defScope s_Hold_init, [.int (4), .int (0), .int (0)], []⟩
def p_Hold_init : List Str := ["self", "most", "cap", "load"]
def n_Hold_init : List Str := ["self", "most", "cap", "load"]
abbrev s_Hold_ask_room : Stmt := (inClass (top 21) 1)
def d_Hold_ask_room : He.DefD := ⟨("Hold", some "ask_room"), "ask_room", "Hold.ask_room", defArgs s_Hold_ask_room, defBody s_Hold_ask_room, defScope s_Hold_ask_room, [], []⟩
def p_Hold_ask_room : List Str := ["self", "room"]
def n_Hold_ask_room : List Str := ["self", "room"]
abbrev s_Hold_taken_share : Stmt := (inClass (top 21) 2)
def d_Hold_taken_share : He.DefD := ⟨("Hold", some "taken_share"), "taken_share", "Hold.taken_share", defArgs s_Hold_taken_share, defBody s_Hold_taken_share, defScope s_Hold_taken_share, [], []⟩
def p_Hold_taken_share : List Str := ["self", "room"]
def n_Hold_taken_share : List Str := ["self", "room", "whole", "one"]
abbrev s_Hold_put_room : Stmt := (inClass (top 21) 3)
def d_Hold_put_room : He.DefD := ⟨("Hold", some "put_room"), "put_room", "Hold.put_room", defArgs s_Hold_put_room, defBody s_Hold_put_room, defScope s_Hold_put_room, [], []⟩
def p_Hold_put_room : List Str := ["self", "marks"]
def n_Hold_put_room : List Str := ["self", "marks", "many", "one", "row"]
abbrev s_Hold_put_flow : Stmt := (inClass (top 21) 4)
def d_Hold_put_flow : He.DefD := ⟨("Hold", some "put_flow"), "put_flow", "Hold.put_flow", defArgs s_Hold_put_flow, defBody s_Hold_put_flow, defScope s_Hold_put_flow, [], []⟩
def p_Hold_put_flow : List Str := ["self", "into", "of", "share"]
def n_Hold_put_flow : List Str := ["self", "into", "of", "share", "whole"]
abbrev s_Hold_many : Stmt := (inClass (top 21) 7)
def d_Hold_many : He.DefD := ⟨("Hold", some "many"), "many", "Hold.many", defArgs s_Hold_many, defBody s_Hold_many, defScope s_Hold_many, [], []⟩
def p_Hold_many : List Str := ["self"]
def n_Hold_many : List Str := ["self"]
abbrev s_Hold_marks : Stmt := (inClass (top 21) 8)
def d_Hold_marks : He.DefD := ⟨("Hold", some "marks"), "marks", "Hold.marks", defArgs s_Hold_marks, defBody s_Hold_marks, defScope s_Hold_marks, [], []⟩
def p_Hold_marks : List Str := ["self", "room"]
def n_Hold_marks : List Str := ["self", "room"]
abbrev s_Hold_share : Stmt := (inClass (top 21) 9)
def d_Hold_share : He.DefD := ⟨("Hold", some "share"), "share", "Hold.share", defArgs s_Hold_share, defBody s_Hold_share, defScope s_Hold_share, [], []⟩
def p_Hold_share : List Str := ["self", "into", "of"]
def n_Hold_share : List Str := ["self", "into", "of"]
abbrev s_is_touching : Stmt := (top 24)
def d_is_touching : He.DefD := ⟨("is_touching", none), "is_touching", "is_touching", defArgs s_is_touching, defBody s_is_touching, defScope s_is_touching, [], []⟩
def p_is_touching : List Str := ["hold", "one", "other"]
def n_is_touching : List Str := ["hold", "one", "other"]
abbrev s_part_by : Stmt := (top 25)
def d_part_by : He.DefD := ⟨("part_by", none), "part_by", "part_by", defArgs s_part_by, defBody s_part_by, defScope s_part_by, [], []⟩
def p_part_by : List Str := ["hold", "first", "left"]
def n_part_by : List Str := ["hold", "first", "left", "part", "at", "one"]
abbrev s_parts_of : Stmt := (top 26)
def d_parts_of : He.DefD := ⟨("parts_of", none), "parts_of", "parts_of", defArgs s_parts_of, defBody s_parts_of, defScope s_parts_of, [], []⟩
def p_parts_of : List Str := ["hold"]
def n_parts_of : List Str := ["hold", "left", "found", "first"]
abbrev s_law_cell_at : Stmt := (top 28)
def d_law_cell_at : He.DefD := ⟨("_law_cell_at", none), "_law_cell_at", "_law_cell_at", defArgs s_law_cell_at, defBody s_law_cell_at, defScope s_law_cell_at, [], []⟩
def p_law_cell_at : List Str := ["_law_script", "_law_k"]
def n_law_cell_at : List Str := ["_law_script", "_law_k"]
abbrev s_law_part : Stmt := (top 29)
def d_law_part : He.DefD := ⟨("_law_part", none), "_law_part", "_law_part", defArgs s_law_part, defBody s_law_part, defScope s_law_part, [], []⟩
def p_law_part : List Str := ["_law_top", "_law_bottom"]
def n_law_part : List Str := ["_law_top", "_law_bottom", "_law_one", "_law_other", "_law_rest"]
abbrev s_law_share : Stmt := (top 30)
def d_law_share : He.DefD := ⟨("_law_share", none), "_law_share", "_law_share", defArgs s_law_share, defBody s_law_share, defScope s_law_share, [], []⟩
def p_law_share : List Str := ["_law_cell"]
def n_law_share : List Str := ["_law_cell", "_law_bottom"]
abbrev s_law_parts : Stmt := (top 31)
def d_law_parts : He.DefD := ⟨("_law_parts", none), "_law_parts", "_law_parts", defArgs s_law_parts, defBody s_law_parts, defScope s_law_parts, [], []⟩
def p_law_parts : List Str := ["_law_many", "_law_takes"]
def n_law_parts : List Str := ["_law_many", "_law_takes", "_law_left", "_law_found", "_law_part_here", "_law_grown", "_law_more", "_law_j", "_law_i"]
abbrev s_law_right : Stmt := (top 32)
def d_law_right : He.DefD := ⟨("_law_right", none), "_law_right", "_law_right", defArgs s_law_right, defBody s_law_right, defScope s_law_right, [], []⟩
def p_law_right : List Str := ["_law_hold", "_law_takes"]
def n_law_right : List Str := ["_law_hold", "_law_takes", "_law_found", "_law_due", "_law_part_here", "_law_one"]
abbrev s_law : Stmt := (top 33)
def d_law : He.DefD := ⟨("law", none), "law", "law", defArgs s_law, defBody s_law, defScope s_law, [], []⟩
def p_law : List Str := ["_law_script"]
def n_law : List Str := ["_law_script", "_law_hold", "_law_many", "_law_k", "_law_takes", "_law_cell", "_law_one", "_law_other"]
def atL (i : Nat) : Str × Option Str := match i with
  | 0 => d_NoRoom_init.at_
  | 1 => d_NoShare_init.at_
  | 2 => d_divisor.at_
  | 3 => d_fraction.at_
  | 4 => d_plus.at_
  | 5 => d_minus.at_
  | 6 => d_under.at_
  | 7 => d_is_bound.at_
  | 8 => d_do_rise.at_
  | 9 => d_Hold_init.at_
  | 10 => d_Hold_ask_room.at_
  | 11 => d_Hold_taken_share.at_
  | 12 => d_Hold_put_room.at_
  | 13 => d_Hold_put_flow.at_
  | 14 => d_Hold_many.at_
  | 15 => d_Hold_marks.at_
  | 16 => d_Hold_share.at_
  | 17 => d_is_touching.at_
  | 18 => d_part_by.at_
  | 19 => d_parts_of.at_
  | 20 => d_law_cell_at.at_
  | 21 => d_law_part.at_
  | 22 => d_law_share.at_
  | 23 => d_law_parts.at_
  | 24 => d_law_right.at_
  | 25 => d_law.at_
  | _ => (Str.empty, none)
def L : LawD := ⟨T, [d_NoRoom_init, d_NoShare_init, d_divisor, d_fraction, d_plus, d_minus, d_under, d_is_bound, d_do_rise, d_Hold_init, d_Hold_ask_room, d_Hold_taken_share, d_Hold_put_room, d_Hold_put_flow, d_Hold_many, d_Hold_marks, d_Hold_share, d_is_touching, d_part_by, d_parts_of, d_law_cell_at, d_law_part, d_law_share, d_law_parts, d_law_right, d_law], [p_NoRoom_init, p_NoShare_init, p_divisor, p_fraction, p_plus, p_minus, p_under, p_is_bound, p_do_rise, p_Hold_init, p_Hold_ask_room, p_Hold_taken_share, p_Hold_put_room, p_Hold_put_flow, p_Hold_many, p_Hold_marks, p_Hold_share, p_is_touching, p_part_by, p_parts_of, p_law_cell_at, p_law_part, p_law_share, p_law_parts, p_law_right, p_law], [n_NoRoom_init, n_NoShare_init, n_divisor, n_fraction, n_plus, n_minus, n_under, n_is_bound, n_do_rise, n_Hold_init, n_Hold_ask_room, n_Hold_taken_share, n_Hold_put_room, n_Hold_put_flow, n_Hold_many, n_Hold_marks, n_Hold_share, n_is_touching, n_part_by, n_parts_of, n_law_cell_at, n_law_part, n_law_share, n_law_parts, n_law_right, n_law], ["StokeError", "NoNumber", "NoHold", "Full", "NoMarks", "TooMany", "NoRoom", "NoShare", "Hold"], atL, 25⟩
theorem k_NoRoom_init : chkSs T n_NoRoom_init (defScope s_NoRoom_init) (fun _ => true) b_NoRoom_init true (defBody s_NoRoom_init) = true := by decide +kernel
theorem e_NoRoom_init : FnScope n_NoRoom_init p_NoRoom_init (defScope s_NoRoom_init) := ⟨rfl, rfl, rfl, by decide +kernel, rfl, by decide +kernel, by decide +kernel⟩
theorem a_NoRoom_init : BindT d_NoRoom_init.name d_NoRoom_init.qual d_NoRoom_init.params d_NoRoom_init.body d_NoRoom_init.scope p_NoRoom_init 0 := ⟨fun _ _ _ _ _ _ _ us hl => match us, hl with | [u0, u1], _ => rfl, fun h => absurd rfl h⟩
theorem t_NoRoom_init : DefT L 0 f_NoRoom_init := ⟨d_NoRoom_init, p_NoRoom_init, n_NoRoom_init, rfl, rfl, rfl, rfl, rfl, by decide +kernel, rfl, rfl, e_NoRoom_init, k_NoRoom_init, a_NoRoom_init⟩
theorem k_NoShare_init : chkSs T n_NoShare_init (defScope s_NoShare_init) (fun _ => true) b_NoShare_init true (defBody s_NoShare_init) = true := by decide +kernel
theorem e_NoShare_init : FnScope n_NoShare_init p_NoShare_init (defScope s_NoShare_init) := ⟨rfl, rfl, rfl, by decide +kernel, rfl, by decide +kernel, by decide +kernel⟩
theorem a_NoShare_init : BindT d_NoShare_init.name d_NoShare_init.qual d_NoShare_init.params d_NoShare_init.body d_NoShare_init.scope p_NoShare_init 0 := ⟨fun _ _ _ _ _ _ _ us hl => match us, hl with | [u0, u1], _ => rfl, fun h => absurd rfl h⟩
theorem t_NoShare_init : DefT L 1 f_NoShare_init := ⟨d_NoShare_init, p_NoShare_init, n_NoShare_init, rfl, rfl, rfl, rfl, rfl, by decide +kernel, rfl, rfl, e_NoShare_init, k_NoShare_init, a_NoShare_init⟩
theorem k_divisor : chkSs T n_divisor (defScope s_divisor) (fun _ => true) b_divisor true (defBody s_divisor) = true := by decide +kernel
theorem e_divisor : FnScope n_divisor p_divisor (defScope s_divisor) := ⟨rfl, rfl, rfl, by decide +kernel, rfl, by decide +kernel, by decide +kernel⟩
theorem a_divisor : BindT d_divisor.name d_divisor.qual d_divisor.params d_divisor.body d_divisor.scope p_divisor 0 := ⟨fun _ _ _ _ _ _ _ us hl => match us, hl with | [u0, u1], _ => rfl, fun h => absurd rfl h⟩
theorem t_divisor : DefT L 2 f_divisor := ⟨d_divisor, p_divisor, n_divisor, rfl, rfl, rfl, rfl, rfl, by decide +kernel, rfl, rfl, e_divisor, k_divisor, a_divisor⟩
theorem k_fraction : chkSs T n_fraction (defScope s_fraction) (fun _ => true) b_fraction true (defBody s_fraction) = true := by decide +kernel
theorem e_fraction : FnScope n_fraction p_fraction (defScope s_fraction) := ⟨rfl, rfl, rfl, by decide +kernel, rfl, by decide +kernel, by decide +kernel⟩
theorem a_fraction : BindT d_fraction.name d_fraction.qual d_fraction.params d_fraction.body d_fraction.scope p_fraction 0 := ⟨fun _ _ _ _ _ _ _ us hl => match us, hl with | [u0, u1], _ => rfl, fun h => absurd rfl h⟩
theorem t_fraction : DefT L 3 f_fraction := ⟨d_fraction, p_fraction, n_fraction, rfl, rfl, rfl, rfl, rfl, by decide +kernel, rfl, rfl, e_fraction, k_fraction, a_fraction⟩
theorem k_plus : chkSs T n_plus (defScope s_plus) (fun _ => true) b_plus true (defBody s_plus) = true := by decide +kernel
theorem e_plus : FnScope n_plus p_plus (defScope s_plus) := ⟨rfl, rfl, rfl, by decide +kernel, rfl, by decide +kernel, by decide +kernel⟩
theorem a_plus : BindT d_plus.name d_plus.qual d_plus.params d_plus.body d_plus.scope p_plus 0 := ⟨fun _ _ _ _ _ _ _ us hl => match us, hl with | [u0, u1], _ => rfl, fun h => absurd rfl h⟩
theorem t_plus : DefT L 4 f_plus := ⟨d_plus, p_plus, n_plus, rfl, rfl, rfl, rfl, rfl, by decide +kernel, rfl, rfl, e_plus, k_plus, a_plus⟩
theorem k_minus : chkSs T n_minus (defScope s_minus) (fun _ => true) b_minus true (defBody s_minus) = true := by decide +kernel
theorem e_minus : FnScope n_minus p_minus (defScope s_minus) := ⟨rfl, rfl, rfl, by decide +kernel, rfl, by decide +kernel, by decide +kernel⟩
theorem a_minus : BindT d_minus.name d_minus.qual d_minus.params d_minus.body d_minus.scope p_minus 0 := ⟨fun _ _ _ _ _ _ _ us hl => match us, hl with | [u0, u1], _ => rfl, fun h => absurd rfl h⟩
theorem t_minus : DefT L 5 f_minus := ⟨d_minus, p_minus, n_minus, rfl, rfl, rfl, rfl, rfl, by decide +kernel, rfl, rfl, e_minus, k_minus, a_minus⟩
theorem k_under : chkSs T n_under (defScope s_under) (fun _ => true) b_under true (defBody s_under) = true := by decide +kernel
theorem e_under : FnScope n_under p_under (defScope s_under) := ⟨rfl, rfl, rfl, by decide +kernel, rfl, by decide +kernel, by decide +kernel⟩
theorem a_under : BindT d_under.name d_under.qual d_under.params d_under.body d_under.scope p_under 0 := ⟨fun _ _ _ _ _ _ _ us hl => match us, hl with | [u0, u1], _ => rfl, fun h => absurd rfl h⟩
theorem t_under : DefT L 6 f_under := ⟨d_under, p_under, n_under, rfl, rfl, rfl, rfl, rfl, by decide +kernel, rfl, rfl, e_under, k_under, a_under⟩
theorem k_is_bound : chkSs T n_is_bound (defScope s_is_bound) (fun _ => true) b_is_bound true (defBody s_is_bound) = true := by decide +kernel
theorem e_is_bound : FnScope n_is_bound p_is_bound (defScope s_is_bound) := ⟨rfl, rfl, rfl, by decide +kernel, rfl, by decide +kernel, by decide +kernel⟩
theorem a_is_bound : BindT d_is_bound.name d_is_bound.qual d_is_bound.params d_is_bound.body d_is_bound.scope p_is_bound 0 := ⟨fun _ _ _ _ _ _ _ us hl => match us, hl with | [u0, u1], _ => rfl, fun h => absurd rfl h⟩
theorem t_is_bound : DefT L 7 f_is_bound := ⟨d_is_bound, p_is_bound, n_is_bound, rfl, rfl, rfl, rfl, rfl, by decide +kernel, rfl, rfl, e_is_bound, k_is_bound, a_is_bound⟩
theorem k_do_rise : chkSs T n_do_rise (defScope s_do_rise) (fun _ => true) b_do_rise true (defBody s_do_rise) = true := by decide +kernel
theorem e_do_rise : FnScope n_do_rise p_do_rise (defScope s_do_rise) := ⟨rfl, rfl, rfl, by decide +kernel, rfl, by decide +kernel, by decide +kernel⟩
theorem a_do_rise : BindT d_do_rise.name d_do_rise.qual d_do_rise.params d_do_rise.body d_do_rise.scope p_do_rise 0 := ⟨fun _ _ _ _ _ _ _ us hl => match us, hl with | [u0], _ => rfl, fun h => absurd rfl h⟩
theorem t_do_rise : DefT L 8 f_do_rise := ⟨d_do_rise, p_do_rise, n_do_rise, rfl, rfl, rfl, rfl, rfl, by decide +kernel, rfl, rfl, e_do_rise, k_do_rise, a_do_rise⟩
theorem k_Hold_init : chkSs T n_Hold_init (defScope s_Hold_init) (fun _ => true) b_Hold_init true (defBody s_Hold_init) = true := by decide +kernel
theorem e_Hold_init : FnScope n_Hold_init p_Hold_init (defScope s_Hold_init) := ⟨rfl, rfl, rfl, by decide +kernel, rfl, by decide +kernel, by decide +kernel⟩
theorem a_Hold_init : BindT d_Hold_init.name d_Hold_init.qual d_Hold_init.params d_Hold_init.body d_Hold_init.scope p_Hold_init 3 := by
  refine ⟨fun h => absurd h (by decide), fun _ n h1 h2 T kV doc pm an cdv ct us its hu hi => ?_⟩
  subst hu
  match its, hi with
  | [i0, i1, i2], _ =>
    match us, h1, h2 with
    | [], _, h2 => exact absurd h2 (by show ¬ 4 ≤ 0 + 3; omega)
    | [u0], _, _ => exact ⟨_, rfl, rfl⟩
    | [u0, u1], _, _ => exact ⟨_, rfl, rfl⟩
    | [u0, u1, u2], _, _ => exact ⟨_, rfl, rfl⟩
    | [u0, u1, u2, u3], _, _ => exact ⟨_, rfl, rfl⟩
    | u0 :: u1 :: u2 :: u3 :: u4 :: ur, h1, _ => exact absurd h1 (by show ¬ (ur.length + 5) ≤ 4; omega)
theorem t_Hold_init : DefT L 9 f_Hold_init := ⟨d_Hold_init, p_Hold_init, n_Hold_init, rfl, rfl, rfl, rfl, rfl, by decide +kernel, rfl, rfl, e_Hold_init, k_Hold_init, a_Hold_init⟩
theorem k_Hold_ask_room : chkSs T n_Hold_ask_room (defScope s_Hold_ask_room) (fun _ => true) b_Hold_ask_room true (defBody s_Hold_ask_room) = true := by decide +kernel
theorem e_Hold_ask_room : FnScope n_Hold_ask_room p_Hold_ask_room (defScope s_Hold_ask_room) := ⟨rfl, rfl, rfl, by decide +kernel, rfl, by decide +kernel, by decide +kernel⟩
theorem a_Hold_ask_room : BindT d_Hold_ask_room.name d_Hold_ask_room.qual d_Hold_ask_room.params d_Hold_ask_room.body d_Hold_ask_room.scope p_Hold_ask_room 0 := ⟨fun _ _ _ _ _ _ _ us hl => match us, hl with | [u0, u1], _ => rfl, fun h => absurd rfl h⟩
theorem t_Hold_ask_room : DefT L 10 f_Hold_ask_room := ⟨d_Hold_ask_room, p_Hold_ask_room, n_Hold_ask_room, rfl, rfl, rfl, rfl, rfl, by decide +kernel, rfl, rfl, e_Hold_ask_room, k_Hold_ask_room, a_Hold_ask_room⟩
theorem k_Hold_taken_share : chkSs T n_Hold_taken_share (defScope s_Hold_taken_share) (fun _ => true) b_Hold_taken_share true (defBody s_Hold_taken_share) = true := by decide +kernel
theorem e_Hold_taken_share : FnScope n_Hold_taken_share p_Hold_taken_share (defScope s_Hold_taken_share) := ⟨rfl, rfl, rfl, by decide +kernel, rfl, by decide +kernel, by decide +kernel⟩
theorem a_Hold_taken_share : BindT d_Hold_taken_share.name d_Hold_taken_share.qual d_Hold_taken_share.params d_Hold_taken_share.body d_Hold_taken_share.scope p_Hold_taken_share 0 := ⟨fun _ _ _ _ _ _ _ us hl => match us, hl with | [u0, u1], _ => rfl, fun h => absurd rfl h⟩
theorem t_Hold_taken_share : DefT L 11 f_Hold_taken_share := ⟨d_Hold_taken_share, p_Hold_taken_share, n_Hold_taken_share, rfl, rfl, rfl, rfl, rfl, by decide +kernel, rfl, rfl, e_Hold_taken_share, k_Hold_taken_share, a_Hold_taken_share⟩
theorem k_Hold_put_room : chkSs T n_Hold_put_room (defScope s_Hold_put_room) (fun _ => true) b_Hold_put_room true (defBody s_Hold_put_room) = true := by decide +kernel
theorem e_Hold_put_room : FnScope n_Hold_put_room p_Hold_put_room (defScope s_Hold_put_room) := ⟨rfl, rfl, rfl, by decide +kernel, rfl, by decide +kernel, by decide +kernel⟩
theorem a_Hold_put_room : BindT d_Hold_put_room.name d_Hold_put_room.qual d_Hold_put_room.params d_Hold_put_room.body d_Hold_put_room.scope p_Hold_put_room 0 := ⟨fun _ _ _ _ _ _ _ us hl => match us, hl with | [u0, u1], _ => rfl, fun h => absurd rfl h⟩
theorem t_Hold_put_room : DefT L 12 f_Hold_put_room := ⟨d_Hold_put_room, p_Hold_put_room, n_Hold_put_room, rfl, rfl, rfl, rfl, rfl, by decide +kernel, rfl, rfl, e_Hold_put_room, k_Hold_put_room, a_Hold_put_room⟩
theorem k_Hold_put_flow : chkSs T n_Hold_put_flow (defScope s_Hold_put_flow) (fun _ => true) b_Hold_put_flow true (defBody s_Hold_put_flow) = true := by decide +kernel
theorem e_Hold_put_flow : FnScope n_Hold_put_flow p_Hold_put_flow (defScope s_Hold_put_flow) := ⟨rfl, rfl, rfl, by decide +kernel, rfl, by decide +kernel, by decide +kernel⟩
theorem a_Hold_put_flow : BindT d_Hold_put_flow.name d_Hold_put_flow.qual d_Hold_put_flow.params d_Hold_put_flow.body d_Hold_put_flow.scope p_Hold_put_flow 0 := ⟨fun _ _ _ _ _ _ _ us hl => match us, hl with | [u0, u1, u2, u3], _ => rfl, fun h => absurd rfl h⟩
theorem t_Hold_put_flow : DefT L 13 f_Hold_put_flow := ⟨d_Hold_put_flow, p_Hold_put_flow, n_Hold_put_flow, rfl, rfl, rfl, rfl, rfl, by decide +kernel, rfl, rfl, e_Hold_put_flow, k_Hold_put_flow, a_Hold_put_flow⟩
theorem k_Hold_many : chkSs T n_Hold_many (defScope s_Hold_many) (fun _ => true) b_Hold_many true (defBody s_Hold_many) = true := by decide +kernel
theorem e_Hold_many : FnScope n_Hold_many p_Hold_many (defScope s_Hold_many) := ⟨rfl, rfl, rfl, by decide +kernel, rfl, by decide +kernel, by decide +kernel⟩
theorem a_Hold_many : BindT d_Hold_many.name d_Hold_many.qual d_Hold_many.params d_Hold_many.body d_Hold_many.scope p_Hold_many 0 := ⟨fun _ _ _ _ _ _ _ us hl => match us, hl with | [u0], _ => rfl, fun h => absurd rfl h⟩
theorem t_Hold_many : DefT L 14 f_Hold_many := ⟨d_Hold_many, p_Hold_many, n_Hold_many, rfl, rfl, rfl, rfl, rfl, by decide +kernel, rfl, rfl, e_Hold_many, k_Hold_many, a_Hold_many⟩
theorem k_Hold_marks : chkSs T n_Hold_marks (defScope s_Hold_marks) (fun _ => true) b_Hold_marks true (defBody s_Hold_marks) = true := by decide +kernel
theorem e_Hold_marks : FnScope n_Hold_marks p_Hold_marks (defScope s_Hold_marks) := ⟨rfl, rfl, rfl, by decide +kernel, rfl, by decide +kernel, by decide +kernel⟩
theorem a_Hold_marks : BindT d_Hold_marks.name d_Hold_marks.qual d_Hold_marks.params d_Hold_marks.body d_Hold_marks.scope p_Hold_marks 0 := ⟨fun _ _ _ _ _ _ _ us hl => match us, hl with | [u0, u1], _ => rfl, fun h => absurd rfl h⟩
theorem t_Hold_marks : DefT L 15 f_Hold_marks := ⟨d_Hold_marks, p_Hold_marks, n_Hold_marks, rfl, rfl, rfl, rfl, rfl, by decide +kernel, rfl, rfl, e_Hold_marks, k_Hold_marks, a_Hold_marks⟩
theorem k_Hold_share : chkSs T n_Hold_share (defScope s_Hold_share) (fun _ => true) b_Hold_share true (defBody s_Hold_share) = true := by decide +kernel
theorem e_Hold_share : FnScope n_Hold_share p_Hold_share (defScope s_Hold_share) := ⟨rfl, rfl, rfl, by decide +kernel, rfl, by decide +kernel, by decide +kernel⟩
theorem a_Hold_share : BindT d_Hold_share.name d_Hold_share.qual d_Hold_share.params d_Hold_share.body d_Hold_share.scope p_Hold_share 0 := ⟨fun _ _ _ _ _ _ _ us hl => match us, hl with | [u0, u1, u2], _ => rfl, fun h => absurd rfl h⟩
theorem t_Hold_share : DefT L 16 f_Hold_share := ⟨d_Hold_share, p_Hold_share, n_Hold_share, rfl, rfl, rfl, rfl, rfl, by decide +kernel, rfl, rfl, e_Hold_share, k_Hold_share, a_Hold_share⟩
theorem k_is_touching : chkSs T n_is_touching (defScope s_is_touching) (fun _ => true) b_is_touching true (defBody s_is_touching) = true := by decide +kernel
theorem e_is_touching : FnScope n_is_touching p_is_touching (defScope s_is_touching) := ⟨rfl, rfl, rfl, by decide +kernel, rfl, by decide +kernel, by decide +kernel⟩
theorem a_is_touching : BindT d_is_touching.name d_is_touching.qual d_is_touching.params d_is_touching.body d_is_touching.scope p_is_touching 0 := ⟨fun _ _ _ _ _ _ _ us hl => match us, hl with | [u0, u1, u2], _ => rfl, fun h => absurd rfl h⟩
theorem t_is_touching : DefT L 17 f_is_touching := ⟨d_is_touching, p_is_touching, n_is_touching, rfl, rfl, rfl, rfl, rfl, by decide +kernel, rfl, rfl, e_is_touching, k_is_touching, a_is_touching⟩
theorem k_part_by : chkSs T n_part_by (defScope s_part_by) (fun _ => true) b_part_by true (defBody s_part_by) = true := by decide +kernel
theorem e_part_by : FnScope n_part_by p_part_by (defScope s_part_by) := ⟨rfl, rfl, rfl, by decide +kernel, rfl, by decide +kernel, by decide +kernel⟩
theorem a_part_by : BindT d_part_by.name d_part_by.qual d_part_by.params d_part_by.body d_part_by.scope p_part_by 0 := ⟨fun _ _ _ _ _ _ _ us hl => match us, hl with | [u0, u1, u2], _ => rfl, fun h => absurd rfl h⟩
theorem t_part_by : DefT L 18 f_part_by := ⟨d_part_by, p_part_by, n_part_by, rfl, rfl, rfl, rfl, rfl, by decide +kernel, rfl, rfl, e_part_by, k_part_by, a_part_by⟩
theorem k_parts_of : chkSs T n_parts_of (defScope s_parts_of) (fun _ => true) b_parts_of true (defBody s_parts_of) = true := by decide +kernel
theorem e_parts_of : FnScope n_parts_of p_parts_of (defScope s_parts_of) := ⟨rfl, rfl, rfl, by decide +kernel, rfl, by decide +kernel, by decide +kernel⟩
theorem a_parts_of : BindT d_parts_of.name d_parts_of.qual d_parts_of.params d_parts_of.body d_parts_of.scope p_parts_of 0 := ⟨fun _ _ _ _ _ _ _ us hl => match us, hl with | [u0], _ => rfl, fun h => absurd rfl h⟩
theorem t_parts_of : DefT L 19 f_parts_of := ⟨d_parts_of, p_parts_of, n_parts_of, rfl, rfl, rfl, rfl, rfl, by decide +kernel, rfl, rfl, e_parts_of, k_parts_of, a_parts_of⟩
theorem k_law_cell_at : chkSs T n_law_cell_at (defScope s_law_cell_at) (fun _ => true) b_law_cell_at true (defBody s_law_cell_at) = true := by decide +kernel
theorem e_law_cell_at : FnScope n_law_cell_at p_law_cell_at (defScope s_law_cell_at) := ⟨rfl, rfl, rfl, by decide +kernel, rfl, by decide +kernel, by decide +kernel⟩
theorem a_law_cell_at : BindT d_law_cell_at.name d_law_cell_at.qual d_law_cell_at.params d_law_cell_at.body d_law_cell_at.scope p_law_cell_at 0 := ⟨fun _ _ _ _ _ _ _ us hl => match us, hl with | [u0, u1], _ => rfl, fun h => absurd rfl h⟩
theorem t_law_cell_at : DefT L 20 f_law_cell_at := ⟨d_law_cell_at, p_law_cell_at, n_law_cell_at, rfl, rfl, rfl, rfl, rfl, by decide +kernel, rfl, rfl, e_law_cell_at, k_law_cell_at, a_law_cell_at⟩
theorem k_law_part : chkSs T n_law_part (defScope s_law_part) (fun _ => true) b_law_part true (defBody s_law_part) = true := by decide +kernel
theorem e_law_part : FnScope n_law_part p_law_part (defScope s_law_part) := ⟨rfl, rfl, rfl, by decide +kernel, rfl, by decide +kernel, by decide +kernel⟩
theorem a_law_part : BindT d_law_part.name d_law_part.qual d_law_part.params d_law_part.body d_law_part.scope p_law_part 0 := ⟨fun _ _ _ _ _ _ _ us hl => match us, hl with | [u0, u1], _ => rfl, fun h => absurd rfl h⟩
theorem t_law_part : DefT L 21 f_law_part := ⟨d_law_part, p_law_part, n_law_part, rfl, rfl, rfl, rfl, rfl, by decide +kernel, rfl, rfl, e_law_part, k_law_part, a_law_part⟩
theorem k_law_share : chkSs T n_law_share (defScope s_law_share) (fun _ => true) b_law_share true (defBody s_law_share) = true := by decide +kernel
theorem e_law_share : FnScope n_law_share p_law_share (defScope s_law_share) := ⟨rfl, rfl, rfl, by decide +kernel, rfl, by decide +kernel, by decide +kernel⟩
theorem a_law_share : BindT d_law_share.name d_law_share.qual d_law_share.params d_law_share.body d_law_share.scope p_law_share 0 := ⟨fun _ _ _ _ _ _ _ us hl => match us, hl with | [u0], _ => rfl, fun h => absurd rfl h⟩
theorem t_law_share : DefT L 22 f_law_share := ⟨d_law_share, p_law_share, n_law_share, rfl, rfl, rfl, rfl, rfl, by decide +kernel, rfl, rfl, e_law_share, k_law_share, a_law_share⟩
theorem k_law_parts : chkSs T n_law_parts (defScope s_law_parts) (fun _ => true) b_law_parts true (defBody s_law_parts) = true := by decide +kernel
theorem e_law_parts : FnScope n_law_parts p_law_parts (defScope s_law_parts) := ⟨rfl, rfl, rfl, by decide +kernel, rfl, by decide +kernel, by decide +kernel⟩
theorem a_law_parts : BindT d_law_parts.name d_law_parts.qual d_law_parts.params d_law_parts.body d_law_parts.scope p_law_parts 0 := ⟨fun _ _ _ _ _ _ _ us hl => match us, hl with | [u0, u1], _ => rfl, fun h => absurd rfl h⟩
theorem t_law_parts : DefT L 23 f_law_parts := ⟨d_law_parts, p_law_parts, n_law_parts, rfl, rfl, rfl, rfl, rfl, by decide +kernel, rfl, rfl, e_law_parts, k_law_parts, a_law_parts⟩
theorem k_law_right : chkSs T n_law_right (defScope s_law_right) (fun _ => true) b_law_right true (defBody s_law_right) = true := by decide +kernel
theorem e_law_right : FnScope n_law_right p_law_right (defScope s_law_right) := ⟨rfl, rfl, rfl, by decide +kernel, rfl, by decide +kernel, by decide +kernel⟩
theorem a_law_right : BindT d_law_right.name d_law_right.qual d_law_right.params d_law_right.body d_law_right.scope p_law_right 0 := ⟨fun _ _ _ _ _ _ _ us hl => match us, hl with | [u0, u1], _ => rfl, fun h => absurd rfl h⟩
theorem t_law_right : DefT L 24 f_law_right := ⟨d_law_right, p_law_right, n_law_right, rfl, rfl, rfl, rfl, rfl, by decide +kernel, rfl, rfl, e_law_right, k_law_right, a_law_right⟩
theorem k_law : chkSs T n_law (defScope s_law) (fun _ => true) b_law true (defBody s_law) = true := by decide +kernel
theorem e_law : FnScope n_law p_law (defScope s_law) := ⟨rfl, rfl, rfl, by decide +kernel, rfl, by decide +kernel, by decide +kernel⟩
theorem a_law : BindT d_law.name d_law.qual d_law.params d_law.body d_law.scope p_law 0 := ⟨fun _ _ _ _ _ _ _ us hl => match us, hl with | [u0], _ => rfl, fun h => absurd rfl h⟩
theorem t_law : DefT L 25 f_law := ⟨d_law, p_law, n_law, rfl, rfl, rfl, rfl, rfl, by decide +kernel, rfl, rfl, e_law, k_law, a_law⟩
theorem dts : AllT L 0 L.T.P.fns := (.cons t_NoRoom_init (.cons t_NoShare_init (.cons t_divisor (.cons t_fraction (.cons t_plus (.cons t_minus (.cons t_under (.cons t_is_bound (.cons t_do_rise (.cons t_Hold_init (.cons t_Hold_ask_room (.cons t_Hold_taken_share (.cons t_Hold_put_room (.cons t_Hold_put_flow (.cons t_Hold_many (.cons t_Hold_marks (.cons t_Hold_share (.cons t_is_touching (.cons t_part_by (.cons t_parts_of (.cons t_law_cell_at (.cons t_law_part (.cons t_law_share (.cons t_law_parts (.cons t_law_right (.cons t_law .nil))))))))))))))))))))))))))
abbrev R : PySem.W.OpenRow := PySem.W.OpenLaw.row PySem.Challenge.rw_stoke_k69_parts_of_a_hold
abbrev hk : PySem.W.Hook := hookM 5 L
def ob (s : PySem.W.SharedT) : He.AlD := obsMG 5 L (HandSHeadRun.getT s)
theorem ob_eq (s : PySem.W.SharedT) : ob s = hk.obs s.abs := obsMG_eq (HandSHeadRun.getT_eq s)
def names : List Str := (R.prog.main.scope.names.map (·.1)).filter fun x => x != "law" && x != "__name__" && x != "ValueError" && x != "Exception"
theorem run (w : World) : HandSHeadRun.RunEq R (PySem.W.view R.prog [33]) hk ob 60000 names w := by
  intro os
  kernel_rfl
end K69
open PySem PySem.W PySem.Calls PyProof.Rows
theorem K69.holds_of {kk : Nat} (hr : L2.Room (2 * kk) callerA) (hm : ∀ ns : List Int, ns.length ≤ 63 → ∃ h', Mi.callN K69.P kk 25 [.rol (ns.map .int)] [] = .ok (.bl true) h') : PySem.Challenge.rw_stoke_k69_parts_of_a_hold.Holds := by
  w_on; o_law
  refine HandSHeadRun.head_any (r := OpenLaw.row PySem.Challenge.rw_stoke_k69_parts_of_a_hold) (q := view (OpenLaw.row PySem.Challenge.rw_stoke_k69_parts_of_a_hold).prog [33]) (H := K69.hk) (ob := K69.ob) (M := 60000) (loose := K69.names) (d := HandSHeadRun.topDef (OpenLaw.row PySem.Challenge.rw_stoke_k69_parts_of_a_hold).prog 33) (kwd := []) K69.ob_eq
    (by kernel_rfl) (fun s => by kernel_rfl) K69.run (by kernel_rfl) (by kernel_rfl) (by kernel_rfl) (by rfl) (by first | assumption | decide +kernel) (by decide +kernel) ⟨rfl, rfl, rfl, rfl, rfl, by decide +kernel⟩ ?hw ?hc
  case hw => w_witness2
  case hc => exact Mi.walk_M (l := PySem.Challenge.rw_stoke_k69_parts_of_a_hold) (L := K69.L) (d := K69.f_law) (x := "_law_script") (N := 5) rfl (by kernel_rfl) hr (Mi.AllT.get K69.dts) rfl rfl rfl (by kernel_rfl) hm
theorem PySem.Challenge.cw_stoke_k69_parts_of_a_hold_holds : PySem.Challenge.rw_stoke_k69_parts_of_a_hold.Holds := by
  exact K69.holds_of (kk := 7) ⟨rfl, by decide, by decide⟩ fun ns hl => K69.law_end ns hl
