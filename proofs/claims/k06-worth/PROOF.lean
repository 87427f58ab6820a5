import PyProof.Rows.All
import Wide.All
import OpenK.AllK
import Wide.FinOn
import HandS.ForMost
import HandS.ForExc
import HandS.ExcInit
import HandS.CallSlots
import HandS.Defaults
import HandS.TupAny
import HandS.TupLe
import HandS.TupMul
import HandS.Deep
import HandS.Conv
import HandS.Wide
import HandS.WideBits
import HandS.IsInst
import KE.KStateDown
import Lean
import HandS.Ends
import HandS.More
import HandS.Words
import HandS.WordsExc
import HandS.Head0
import HandS.Head1
import HandS.Head2
import HandS.HeadEnd
import HandS.HeadHook1
import HandS.HeadHook2
import PySem.Challenge.RW_tilldust_k06_worth
set_option Elab.async false
set_option maxRecDepth 100000
set_option maxHeartbeats 4000000
set_option linter.all false
/-! Pv1: a small pure reading of the programs' Python: values as trees, mutable lists by number, results. -/
namespace Pv
open PySem PySem.Spec PyProof.Rows L2

/-- a value that never changes; lst: a list that nobody changes any more; scr: the script -/
inductive PV where
  | non | bl (b : Bool) | int (i : Int) | str (x : Str) | tup (xs : List PV) | lst (xs : List PV) | scr (ns : List Int)

inductive Ty where
  | int | bool | str | tuple | list
def Ty.name : Ty → String
  | .int => "int"
  | .bool => "bool"
  | .str => "str"
  | .tuple => "tuple"
  | .list => "list"
/-- what a name may hold: a value; a list that may change; a built-in type; a class; a caught error -/
inductive SV where
  | pv (v : PV) | ref (l : Nat) | ty (n : Ty) | cls (c : Str) | exc (c : Str) (fs : List (Str × PV))

abbrev Sl := List (Option SV)
/-- what lies at a number: a list that may change; dead: it is changed no more (it goes on as a value) -/
inductive MO where
  | lst (xs : List PV) | dead
abbrev MH := List MO

inductive RE (α : Type) where
  | ok (a : α) (h : MH) | exc (c : Str) (fs : List (Str × PV)) (h : MH) | stuck

abbrev ME (α : Type) := Sl → MH → RE α
def mPure {α : Type} (a : α) : ME α := fun _ h => .ok a h
def mStuck {α : Type} : ME α := fun _ _ => .stuck
def mBind {α β : Type} (m : ME α) (k : α → ME β) : ME β := fun σ h => match m σ h with
  | .ok a h' => k a σ h'
  | .exc c fs h' => .exc c fs h'
  | .stuck => .stuck
def mOpt {α : Type} (o : Option α) : ME α := fun _ h => match o with
  | some a => .ok a h
  | none => .stuck

inductive RT where
  | nx (σ : Sl) (h : MH) | ret (v : SV) (h : MH) | brk (σ : Sl) (h : MH) | cnt (σ : Sl) (h : MH) | exc (c : Str) (fs : List (Str × PV)) (σ : Sl) (h : MH) | stuck
abbrev MS := Sl → MH → RT
/-- an expression's result handed to a statement -/
def sBind {α : Type} (m : ME α) (k : α → MS) : MS := fun σ h => match m σ h with
  | .ok a h' => k a σ h'
  | .exc c fs h' => .exc c fs σ h'
  | .stuck => .stuck
def sSeq (m k : MS) : MS := fun σ h => match m σ h with
  | .nx σ' h' => k σ' h'
  | r => r

mutual
def PV.data : PV → PyData
  | .non => .none
  | .bl b => .bool b
  | .int i => .int i
  | .str x => .str x
  | .tup xs => .tuple (PV.datas xs)
  | .lst xs => .list (PV.datas xs)
  | .scr ns => .list (ns.map .int)
def PV.datas : List PV → List PyData
  | [] => []
  | x :: xs => x.data :: PV.datas xs
end

/-! ### operators by values -/
def lenOk {α : Type} (xs : List α) : Bool := decide (xs.length ≤ sizeLine)
@[simp] def binV (op : Operator) (a b : PV) : Option PV := match op, a, b with
  | .Add, .int i, .int j => some (.int (i + j))
  | .Add, .str x, .str y => if x.length + y.length ≤ sizeLine then some (.str (x ++ y)) else none
  | .Add, .tup xs, .tup ys => if xs.length + ys.length ≤ sizeLine then some (.tup (xs ++ ys)) else none
  | .Add, .lst xs, .lst ys => if xs.length + ys.length ≤ sizeLine then some (.lst (xs ++ ys)) else none
  | .Sub, .int i, .int j => some (.int (i - j))
  | .Mult, .int i, .int j => if i.natAbs < 2 ^ 64 ∨ j.natAbs < 2 ^ 64 ∨ i.natAbs.log2 + j.natAbs.log2 < 1000000 then some (.int (i * j)) else none
  | .Mult, .tup xs, .int k => if 0 < xs.length ∧ 2 ≤ k ∧ k ≤ 1000 ∧ xs.length ≤ 1000 then some (.tup (List.replicate k.toNat xs).flatten) else none
  | .Mult, .lst xs, .int k => if -(2 ^ 63) ≤ k ∧ k < 2 ^ 63 ∧ xs.length * k.toNat ≤ sizeLine then some (.lst (List.replicate k.toNat xs).flatten) else none
  | .FloorDiv, .int i, .int j => if 0 < j ∧ (j < 1073741824 ∨ j.natAbs.log2 < 9000) then some (.int (i / j)) else none
  | .Mod, .int i, .int j => if 0 < j then some (.int (i % j)) else none
  | .Pow, .int i, .int j => if 0 ≤ j ∧ j ≤ 1000000 ∧ i.natAbs < 2 ^ 64 then some (.int (i ^ j.toNat)) else none
  | _, _, _ => none
@[simp] def intsOf : List PV → Option (List Int)
  | [] => some []
  | .int i :: r => (intsOf r).map (i :: ·)
  | _ :: _ => none
/-- the content of what a name holds, as it is now -/
@[simp] def SV.rd (h : MH) : SV → Option PV
  | .pv v => some v
  | .ref l => match h[l]? with
    | some (.lst xs) => some (.lst xs)
    | _ => none
  | _ => none
/-- handed on as a value: a list of ours is changed no more -/
@[simp] def SV.frz (h : MH) : SV → Option (PV × MH)
  | .pv v => some (v, h)
  | .ref l => match h[l]? with
    | some (.lst xs) => some (.lst xs, h.set l .dead)
    | _ => none
  | _ => none
theorem SV.rd_ref {l : Nat} {h : MH} {p : PV} (e : (SV.ref l).rd h = some p) : ∃ xs, h[l]? = some (.lst xs) ∧ p = .lst xs := by
  have e : (match h[l]? with
    | some (.lst xs) => some (PV.lst xs)
    | _ => none) = some p := e
  split at e
  · rename_i xs hx
    cases e
    exact ⟨xs, hx, rfl⟩
  · cases e
theorem SV.frz_ref {l : Nat} {h h' : MH} {p : PV} (e : (SV.ref l).frz h = some (p, h')) : ∃ xs, h[l]? = some (.lst xs) ∧ p = .lst xs ∧ h' = h.set l .dead := by
  have e : (match h[l]? with
    | some (.lst xs) => some (PV.lst xs, h.set l MO.dead)
    | _ => none) = some (p, h') := e
  split at e
  · rename_i xs hx
    cases e
    exact ⟨xs, hx, rfl, rfl⟩
  · cases e
@[simp] def frzAll (h : MH) : List SV → Option (List PV × MH)
  | [] => some ([], h)
  | x :: r => match x.frz h with
    | some (v, h1) => match frzAll h1 r with
      | some (vs, h2) => some (v :: vs, h2)
      | none => none
    | none => none
@[simp] def eqP (a b : PV) : Option Bool := match a, b with
  | .int i, .int j => some (decide (i = j))
  | .bl i, .bl j => some (decide (i = j))
  | .str i, .str j => some (decide (i = j))
  | a, b => if SeqAt.shaped a.data && SeqAt.shaped b.data then some (PyData.eqv a.data b.data) else none
@[simp] def ordV (op : CmpOp) (a b : PV) : Option Bool := match op, a, b with
  | .Lt, .int i, .int j => some (decide (i < j))
  | .LtE, .int i, .int j => some (decide (i ≤ j))
  | .Gt, .int i, .int j => some (decide (j < i))
  | .GtE, .int i, .int j => some (decide (j ≤ i))
  | .Lt, .tup xs, .tup ys => match intsOf xs, intsOf ys with
    | some ns, some ms => some (HT.lexLt ns ms)
    | _, _ => none
  | _, _, _ => none
@[simp] def flatP : PV → Bool
  | .non | .bl _ | .int _ | .str _ => true
  | _ => false
/-- == of a flat value with an item -/
@[simp] def eqFP : PV → PV → Bool
  | .non, .non => true
  | .bl a, .bl b => a == b
  | .bl a, .int b => (if a then 1 else 0) == b
  | .int a, .bl b => a == (if b then 1 else 0)
  | .int a, .int b => a == b
  | .str a, .str b => a == b
  | _, _ => false
@[simp] def inP (x : PV) (y : PV) : Option Bool := match y with
  | .lst ys => if flatP x && ys.all flatP then some (ys.any fun z => eqFP z x)
      else if SeqAt.shaped x.data && SeqAt.shaped (PyData.list (PV.datas ys)) then some ((PV.datas ys).any fun z => PyData.eqv z x.data) else none
  | .tup ys => if flatP x && ys.all flatP then some (ys.any fun z => eqFP z x) else none
  | .str y => match x with
    | .str z => some (!(Builtin.Str.occurrences y z 0 y.length 1).isEmpty)
    | _ => none
  | _ => none
@[simp] def isNon : SV → Bool
  | .pv .non => true
  | _ => false
@[simp] def cmpP (op : CmpOp) (a b : PV) : Option Bool := match op with
  | .Eq => eqP a b
  | .NotEq => (eqP a b).map (!·)
  | .Lt | .LtE | .Gt | .GtE => ordV op a b
  | .In => inP a b
  | .NotIn => (inP a b).map (!·)
  | _ => none
@[simp] def cmpV (op : CmpOp) (x y : SV) (h : MH) : Option Bool := match op with
  | .Is => if isNon y then some (isNon x) else none
  | .IsNot => if isNon y then some (!isNon x) else none
  | op => match x.rd h, y.rd h with
    | some a, some b => cmpP op a b
    | _, _ => none
@[simp] def truth (x : SV) (h : MH) : Option Bool := match x.rd h with
  | some .non => some false
  | some (.bl b) => some b
  | some (.int i) => some (i != 0)
  | some (.tup xs) => some (!xs.isEmpty)
  | some (.lst xs) => some (!xs.isEmpty)
  | _ => none
/-- the items of a sequence -/
@[simp] def items? : PV → Option (List PV)
  | .tup xs => some xs
  | .lst xs => some xs
  | .scr ns => some (ns.map .int)
  | _ => none
@[simp] def idxV (x i : PV) : Option PV := match x, i with
  | .str z, .int k => if z.length ≤ sizeLine then (L2.atI z.cps.toList k).map fun c => .str ⟨#[c]⟩ else none
  | x, .int k => do L2.atI (← items? x) k
  | _, _ => none
def cutP (xs : List PV) (lo hi : Option Int) : List PV := (xs.drop (HT.sIx xs.length 0 lo)).take (HT.sIx xs.length xs.length hi - HT.sIx xs.length 0 lo)
@[simp] def sliceV (x : PV) (lo hi : Option Int) : Option PV := match x with
  | .tup xs => some (.tup (cutP xs lo hi))
  | .lst xs => some (.lst (cutP xs lo hi))
  | .scr ns => some (.lst (cutP (ns.map .int) lo hi))
  | _ => none
/-! ### built-ins by values -/
@[simp] def isI : PV → Ty → Bool
  | .bl _, .int => true
  | .bl _, .bool => true
  | .int _, .int => true
  | .str _, .str => true
  | .tup _, .tuple => true
  | .lst _, .list => true
  | .scr _, .list => true
  | _, _ => false
def maxL : List Int → Option Int
  | [] => none
  | i :: r => some (r.foldl (fun a b => if a < b then b else a) i)
def minL : List Int → Option Int
  | [] => none
  | i :: r => some (r.foldl (fun a b => if b < a then b else a) i)
inductive Bi where
  | len | abs | int | max | min | sum | divmod
/-- a built-in called with the contents of its arguments -/
@[simp] def biV (f : Bi) (as : List PV) : Option PV := match f, as with
  | .len, [.str z] => if z.length ≤ sizeLine then some (.int z.length) else none
  | .len, [x] => (items? x).map fun xs => .int xs.length
  | .abs, [.int i] => some (.int (if i < 0 then -i else i))
  | .int, [.int i] => some (.int i)
  | .int, [.bl b] => some (.int (if b then 1 else 0))
  | .max, [.int i, .int j] => some (.int (if j > i then j else i))
  | .min, [.int i, .int j] => some (.int (if j < i then j else i))
  | .max, [.lst xs] => (intsOf xs).bind fun ns => (maxL ns).map .int
  | .min, [.lst xs] => (intsOf xs).bind fun ns => (minL ns).map .int
  | .sum, [.lst xs] => (intsOf xs).map fun ns => .int ns.sum
  | .divmod, [.int i, .int j] => if 0 < j ∧ j < 1073741824 then some (.tup [.int (i / j), .int (i % j)]) else none
  | _, _ => none
def biOf (x : Str) : Option Bi := [(("len" : Str), Bi.len), ("abs", .abs), ("int", .int), ("max", .max), ("min", .min), ("sum", .sum), ("divmod", .divmod)].lookup x
def tyOf (x : Str) : Option Ty := [(("int" : Str), Ty.int), ("bool", .bool), ("str", .str), ("tuple", .tuple), ("list", .list)].lookup x
end Pv
/-! Pv2: the reading of expressions and statements. -/
namespace Pv
open PySem PySem.Spec PyProof.Rows L2

/-- a def: its parameters, its names by slot, its scope and body; keeps: what it hands back may be a list that will change -/
structure FnI where
  ps : List Str
  N : List Str
  sc : Scope
  body : List Stmt
  keeps : Bool := false
  kwn : List Nat := []
structure Tab where
  fns : List (Str × FnI) := []
  consts : List (Str × PV) := []
  clss : List Str := []
  subs : List (Str × Str) := []
  muts : List (Nat × Nat × Nat) := []
  wf : Nat := 0
/-- the static context: the names by slot, the scope that runs, the written scope of the block -/
structure SC where
  N : List Str
  sc : Scope
  blk : Option Scope := none
def okName (x : Str) : Bool := !(x == ("__debug__" : Str)) && !(x == ("__classdict__" : Str))
def SC.vis (c : SC) (x : Str) : Bool := match c.sc.names.lookup x with
  | some .local | some .cell | some .free => true
  | _ => false
def SC.gl (c : SC) (x : Str) : Bool := match c.sc.names.lookup x with
  | some .globalImplicit => true
  | _ => false
/-- the slot of a name that may be stored here -/
def SC.sto (c : SC) (x : Str) : Bool := match c.sc.names.lookup x with
  | some .local => true
  | some .cell => match c.blk with
    | none => true
    | some b => b.names.lookup x == some .cell
  | _ => false
def SC.ix (c : SC) (x : Str) : Option Nat := c.N.findIdx? (fun y => y == x)
def Tab.isMut (T : Tab) (p : Pos) : Bool := T.muts.contains (p.line, p.col, p.endCol)

/-! ### combinators -/
def mVar (i : Nat) : ME SV := fun σ h => match σ[i]? with
  | some (some v) => .ok v h
  | _ => .stuck
def mCmp (op : CmpOp) (ma mb : ME SV) : ME SV := mBind ma fun x => mBind mb fun y => fun _ h => match cmpV op x y h with
  | some b => .ok (.pv (.bl b)) h
  | none => .stuck
def mChain (o1 o2 : CmpOp) (ma mb mc : ME SV) : ME SV := mBind ma fun x => mBind mb fun y => fun σ h => match cmpV o1 x y h with
  | some true => mBind mc (fun z => fun _ h => match cmpV o2 y z h with
    | some b => .ok (.pv (.bl b)) h
    | none => .stuck) σ h
  | some false => .ok (.pv (.bl false)) h
  | none => .stuck
def mNeg (ma : ME SV) : ME SV := mBind ma fun x => match x with
  | .pv (.int i) => mPure (.pv (.int (-i)))
  | _ => mStuck
/-- a test by its value -/
def tVal (ma : ME SV) : ME Bool := mBind ma fun x => match x with
  | .pv (.bl b) => mPure b
  | _ => mStuck
def tTru (ma : ME SV) : ME Bool := mBind ma fun x => fun _ h => match truth x h with
  | some b => .ok b h
  | none => .stuck
def tNotM (mt : ME Bool) : ME Bool := mBind mt fun b => mPure (!b)
def vNot (mt : ME SV) : ME SV := mBind mt fun x => match x with
  | .pv (.bl b) => mPure (.pv (.bl (!b)))
  | _ => mStuck
def tAnds : List (ME Bool) → ME Bool
  | [] => mStuck
  | [t] => t
  | t :: ts => mBind t fun b => if b = true then tAnds ts else mPure false
def tOrs : List (ME Bool) → ME Bool
  | [] => mStuck
  | [t] => t
  | t :: ts => mBind t fun b => if b = true then mPure true else tOrs ts
def vAnds : List (ME SV) → ME SV
  | [] => mStuck
  | [t] => t
  | t :: ts => mBind t fun x => match x with
    | .pv (.bl true) => vAnds ts
    | .pv (.bl false) => mPure (.pv (.bl false))
    | _ => mStuck
def vOrs : List (ME SV) → ME SV
  | [] => mStuck
  | [t] => t
  | t :: ts => mBind t fun x => match x with
    | .pv (.bl false) => vOrs ts
    | .pv (.bl true) => mPure (.pv (.bl true))
    | _ => mStuck
def mIf (mt : ME Bool) (ma mb : ME SV) : ME SV := mBind mt fun b => if b = true then ma else mb
/-- arguments, from the left -/
def mArgs : List (ME SV) → ME (List SV)
  | [] => mPure []
  | m :: ms => mBind m fun x => mBind (mArgs ms) fun xs => mPure (x :: xs)
def mTup (m : ME (List SV)) : ME SV := mBind m fun xs => fun _ h => match frzAll h xs with
  | some (vs, h') => if vs.length ≤ sizeLine then .ok (.pv (.tup vs)) h' else .stuck
  | none => .stuck
/-- a new list: one that will change, or one that will not -/
def newL (mt : Bool) (vs : List PV) : ME SV := if mt = true then fun _ h => .ok (.ref h.length) (h ++ [.lst vs]) else mPure (.pv (.lst vs))
def mLst (mt : Bool) (m : ME (List SV)) : ME SV := mBind m fun xs => fun σ h => match frzAll h xs with
  | some (vs, h') => if vs.length ≤ sizeLine then newL mt vs σ h' else .stuck
  | none => .stuck
def mBin (mt : Bool) (op : Operator) (ma mb : ME SV) : ME SV := mBind ma fun x => mBind mb fun y => match x, y with
  | .pv a, .pv b => match binV op a b with
    | some (.lst vs) => newL mt vs
    | some r => mPure (.pv r)
    | none => mStuck
  | _, _ => mStuck
def mIdx (ma mb : ME SV) : ME SV := mBind ma fun x => mBind mb fun i => fun _ h => match x.rd h, i with
  | some v, .pv i => match idxV v i with
    | some r => .ok (.pv r) h
    | none => .stuck
  | _, _ => .stuck
def mPart : Option (ME SV) → ME (Option Int)
  | none => mPure none
  | some m => mBind m fun x => match x with
    | .pv (.int i) => mPure (some i)
    | _ => mStuck
def mSlice (mt : Bool) (ma : ME SV) (ml mu : Option (ME SV)) : ME SV := mBind ma fun x => mBind (mPart ml) fun lo => mBind (mPart mu) fun hi => fun σ h => match x.rd h with
  | some v => match sliceV v lo hi with
    | some (.lst vs) => newL mt vs σ h
    | some r => .ok (.pv r) h
    | none => .stuck
  | none => .stuck
def rds? (h : MH) : List SV → Option (List PV)
  | [] => some []
  | x :: r => match x.rd h, rds? h r with
    | some v, some vs => some (v :: vs)
    | _, _ => none
def mBi (f : Bi) (m : ME (List SV)) : ME SV := mBind m fun xs => fun _ h => match rds? h xs with
  | some vs => match biV f vs with
    | some r => .ok (.pv r) h
    | none => .stuck
  | none => .stuck
def mList (mt : Bool) (m : ME (List SV)) : ME SV := mBind m fun xs => fun σ h => match rds? h xs with
  | some [v] => match items? v with
    | some vs => newL mt vs σ h
    | none => .stuck
  | _ => .stuck
def mTuple (m : ME (List SV)) : ME SV := mBind m fun xs => fun _ h => match rds? h xs with
  | some [v] => match items? v with
    | some vs => .ok (.pv (.tup vs)) h
    | none => .stuck
  | _ => .stuck
def mIsI (m : ME (List SV)) : ME SV := mBind m fun xs => fun _ h => match xs with
  | [x, .ty t] => match x.rd h with
    | some v => .ok (.pv (.bl (isI v t))) h
    | none => .stuck
  | _ => .stuck
def mCall (call : Str → List SV → MH → RE SV) (f : Str) (n : Nat) (m : ME (List SV)) : ME SV := mBind m fun xs => fun _ h => if xs.length = n then call f xs h else .stuck
/-! ### targets, loops -/
inductive Tg where
  | name (i : Nat) | tup (is : List Nat)
def putAll : List Nat → List PV → Sl → Option Sl
  | [], [], σ => some σ
  | i :: is, v :: vs, σ => putAll is vs (σ.set i (some (.pv v)))
  | _, _, _ => none
def Tg.put : Tg → SV → Sl → Option Sl
  | .name i, v, σ => some (σ.set i (some v))
  | .tup is, .pv (.tup vs), σ => putAll is vs σ
  | .tup _, _, _ => none
def Tg.slots : Tg → List Nat
  | .name i => [i]
  | .tup is => is
def wipeS (σ : Sl) : List Nat → Sl
  | [] => σ
  | v :: vs => (wipeS σ vs).set v none
def compLoop (tg : Tg) (tt : ME Bool) (te : ME SV) (σ : Sl) : List PV → List PV → MH → RE (List PV)
  | [], acc, h => .ok acc h
  | x :: xs, acc, h => match tg.put (.pv x) σ with
    | none => .stuck
    | some σ1 => match tt σ1 h with
      | .ok true h1 => match te σ1 h1 with
        | .ok v h2 => match v.frz h2 with
          | some (y, h3) => if acc.length < sizeLine then compLoop tg tt te σ xs (acc ++ [y]) h3 else .stuck
          | none => .stuck
        | _ => .stuck
      | .ok false h1 => compLoop tg tt te σ xs acc h1
      | _ => .stuck
/-- what a loop walks: fixed items, or a list that stands as it is through the loop -/
inductive Wk where
  | its (xs : List PV) | live (l : Nat) (xs : List PV)
def mComp (mt : Bool) (vs : List Nat) (mi : ME Wk) (tg : Tg) (tt : ME Bool) (te : ME SV) : ME SV := mBind mi fun w => fun σ h => match w with
  | .its xs => match compLoop tg tt te (wipeS σ vs) xs [] h with
    | .ok ys h' => newL mt ys σ h'
    | _ => .stuck
  | .live _ _ => .stuck
open Classical in
noncomputable def forLoop (tg : Tg) (body : MS) (l : Option Nat) (all : List PV) : List PV → MS
  | [], σ, h => if (∀ k, l = some k → h[k]? = some (.lst all)) then .nx σ h else .stuck
  | x :: xs, σ, h => if (∀ k, l = some k → h[k]? = some (.lst all)) then (match tg.put (.pv x) σ with
    | none => .stuck
    | some σ1 => match body σ1 h with
      | .nx σ2 h2 => forLoop tg body l all xs σ2 h2
      | .cnt σ2 h2 => forLoop tg body l all xs σ2 h2
      | .brk σ2 h2 => .nx σ2 h2
      | r => r) else .stuck
noncomputable def sFor (mi : ME Wk) (tg : Tg) (body : MS) : MS := sBind mi fun w => match w with
  | .its xs => forLoop tg body none xs xs
  | .live l xs => forLoop tg body (some l) xs xs
def whileLoop (tt : ME Bool) (body : MS) : Nat → MS
  | 0, _, _ => .stuck
  | n + 1, σ, h => match tt σ h with
    | .ok true h1 => match body σ h1 with
      | .nx σ2 h2 => whileLoop tt body n σ2 h2
      | .cnt σ2 h2 => whileLoop tt body n σ2 h2
      | .brk σ2 h2 => .nx σ2 h2
      | r => r
    | .ok false h1 => .nx σ h1
    | .exc c fs h1 => .exc c fs σ h1
    | .stuck => .stuck
/-- what is walked, by its value -/
def wkV (ma : ME SV) : ME Wk := mBind ma fun x => fun _ h => match x with
  | .pv v => match items? v with
    | some xs => .ok (.its xs) h
    | none => .stuck
  | .ref l => match h[l]? with
    | some (.lst xs) => .ok (.live l xs) h
    | _ => .stuck
  | _ => .stuck
def rangeL (lo : Int) (n : Nat) : List PV := (List.range n).map fun (i : Nat) => PV.int (lo + (i : Int))
def rng1 : List SV → Option Int
  | [.pv (.int j)] => if -(2 ^ 62) ≤ j ∧ j < 2 ^ 62 then some j else none
  | _ => none
def rng2 : List SV → Option (Int × Int)
  | [.pv (.int i), .pv (.int j)] => if -(2 ^ 62) ≤ i ∧ i < 2 ^ 62 ∧ -(2 ^ 62) ≤ j ∧ j < 2 ^ 62 then some (i, j) else none
  | _ => none
def wkRange1 (m : ME (List SV)) : ME Wk := mBind m fun xs => match rng1 xs with
  | some j => mPure (.its (rangeL 0 j.toNat))
  | none => mStuck
def wkRange2 (m : ME (List SV)) : ME Wk := mBind m fun xs => match rng2 xs with
  | some (i, j) => mPure (.its (rangeL i (j - i).toNat))
  | none => mStuck

/-! ### statements -/
def sPut (ma : ME SV) (tg : Tg) : MS := sBind ma fun v => fun σ h => match tg.put v σ with
  | some σ' => .nx σ' h
  | none => .stuck
/-- o[i] = e: e first -/
def sSto (mo mi me : ME SV) : MS := sBind me fun v => sBind mo fun o => sBind mi fun i => fun σ h => match o, i with
  | .ref l, .pv (.int k) => match v.frz h with
    | some (v, h1) => match h1[l]? with
      | some (.lst xs) => match L2.ixN xs.length k with
        | some j => .nx σ (h1.set l (.lst (xs.set j v)))
        | none => .stuck
      | _ => .stuck
    | none => .stuck
  | _, _ => .stuck
def sAug (op : Operator) (i : Nat) (me : ME SV) : MS := fun σ h => match σ[i]? with
  | some (some (.pv (.int a))) => sBind me (fun v => fun σ h => match op, v with
    | .Add, .pv (.int b) => .nx (σ.set i (some (.pv (.int (a + b))))) h
    | .Sub, .pv (.int b) => .nx (σ.set i (some (.pv (.int (a - b))))) h
    | _, _ => .stuck) σ h
  | _ => .stuck
def sRet (ma : ME SV) : MS := sBind ma fun v => fun _ h => .ret v h
def sDrop (ma : ME SV) : MS := sBind ma fun _ => fun σ h => .nx σ h
def sIf (mt : ME Bool) (a b : MS) : MS := sBind mt fun t => if t = true then a else b
/-- xs.append(e) -/
def mAppend (mo me : ME SV) : ME SV := mBind mo fun o => fun σ h => match o with
  | .ref l => match h[l]? with
    | some (.lst _) => mBind me (fun v => fun _ h => match v.frz h with
      | some (v, h1) => match h1[l]? with
        | some (.lst xs) => if xs.length < sizeLine then .ok (.pv .non) (h1.set l (.lst (xs ++ [v]))) else .stuck
        | _ => .stuck
      | none => .stuck) σ h
    | _ => .stuck
  | _ => .stuck
/-- a, b = x, y with plain local names -/
def sPar2 (i j : Nat) (m : ME (List SV)) : MS := sBind m fun vs => fun σ h => match vs with
  | [v, w] => .nx ((σ.set i (some v)).set j (some w)) h
  | _ => .stuck
/-- the call of a def, some parameters by their names -/
def mCallK (call : Str → List SV → MH → RE SV) (f : Str) (n1 n2 : Nat) (m mk : ME (List SV)) : ME SV := mBind m fun xs => mBind mk fun ys => fun _ h => if xs.length = n1 ∧ ys.length = n2 then call f (xs ++ ys) h else .stuck

/-! ### the reading itself, by fuel -/
structure EvT where
  e : SC → Expr → ME SV
  t : SC → Expr → ME Bool
def isStar : Expr → Bool
  | .Starred .. => true
  | _ => false
def isSet : Expr → Bool
  | .Set .. => true
  | _ => false
def plainIx : Expr → Bool
  | .Slice .. => false
  | _ => true
def plainBase : Expr → Bool
  | .Name .. => true
  | .Subscript .. => true
  | .Attribute .. => true
  | _ => false
def constE : Const → ME SV
  | .none => mPure (.pv .non)
  | .bool b => mPure (.pv (.bl b))
  | .int i => mPure (.pv (.int i))
  | .str x => mPure (.pv (.str x))
  | _ => mStuck
section
variable (T : Tab) (call : Str → List SV → MH → RE SV)
def nameE (c : SC) (x : Str) : ME SV :=
  if okName x = false then mStuck
  else if c.vis x = true then (match c.ix x with
    | some i => mVar i
    | none => mStuck)
  else if c.gl x = true then (match T.consts.lookup x with
    | some v => mPure (.pv v)
    | none => match tyOf x with
      | some t => mPure (.ty t)
      | none => mStuck)
  else mStuck
def nameIx (c : SC) : Expr → Option Nat
  | .Name x _ => if c.sto x = true then c.ix x else none
  | _ => none
def tgE (c : SC) : Expr → Option Tg
  | .Name x _ => if c.sto x = true then (c.ix x).map .name else none
  | .Tuple es _ _ => (es.mapM (nameIx c)).map .tup
  | _ => none
def blkOwn (c : SC) (scope : Scope) : List (Str × Nat) := scope.names.filterMap fun y => match y.2 with
  | .local | .cell => (c.ix y.1).map fun i => (y.1, i)
  | _ => none
def SC.sub (c : SC) (scope : Scope) : SC := { N := c.N, sc := relS scope c.sc, blk := some scope }
def argsE (r : EvT) (c : SC) : List Expr → ME (List SV)
  | [] => mPure []
  | e :: es => if isStar e = true then mStuck else mBind (r.e c e) fun x => mBind (argsE r c es) fun xs => mPure (x :: xs)
def iterE (r : EvT) (c : SC) (e : Expr) : ME Wk := match e with
  | .Call (.Name f _) [a] [] _ => if f = ("range" : Str) ∧ c.gl f = true then (if isStar a = true then mStuck else wkRange1 (argsE r c [a])) else wkV (r.e c e)
  | .Call (.Name f _) [a, b] [] _ => if f = ("range" : Str) ∧ c.gl f = true then (if isStar a = true ∨ isStar b = true then mStuck else wkRange2 (argsE r c [a, b])) else wkV (r.e c e)
  | .Set .. => mStuck
  | e => wkV (r.e c e)
def kwsE (r : EvT) (c : SC) : List Keyword → ME (List SV)
  | [] => mPure []
  | ⟨_, e, _⟩ :: ks => mBind (r.e c e) fun x => mBind (kwsE r c ks) fun xs => mPure (x :: xs)
def kwNames (ks : List Keyword) : List (Option Str) := ks.map fun k => match k with | ⟨n, _, _⟩ => n
def callKE (r : EvT) (c : SC) (f : Str) (args : List Expr) (ks : List Keyword) : ME SV :=
  if c.gl f = true ∧ okName f = true ∧ (args.all fun e => !isStar e) = true then (match T.fns.lookup f with
    | some fi => if args.length ∈ fi.kwn ∧ args.length ≤ fi.ps.length ∧ kwNames ks = (fi.ps.drop args.length).map some then mCallK call f args.length (fi.ps.drop args.length).length (argsE r c args) (kwsE r c ks) else mStuck
    | none => mStuck)
  else mStuck
def call0E (c : SC) (f : Str) : ME SV :=
  if c.gl f = true ∧ okName f = true then (match T.fns.lookup f with
    | some fi => mCall call f fi.ps.length (mPure [])
    | none => mStuck)
  else mStuck
def callE (r : EvT) (c : SC) (pos : Pos) (f : Str) (args : List Expr) : ME SV :=
  if c.gl f = true ∧ okName f = true ∧ args ≠ [] ∧ (args.all fun e => !isStar e) = true then (match T.fns.lookup f with
    | some fi => mCall call f fi.ps.length (argsE r c args)
    | none => match biOf f with
      | some b => mBi b (argsE r c args)
      | none => if f = ("isinstance" : Str) then mIsI (argsE r c args)
        else if f = ("list" : Str) then mList (T.isMut pos) (argsE r c args)
        else if f = ("tuple" : Str) then mTuple (argsE r c args) else mStuck)
  else mStuck
def testsE (r : EvT) (c : SC) : List Expr → ME Bool
  | [] => mPure true
  | [e] => r.t c e
  | _ => mStuck
def stepE (r : EvT) (c : SC) : Expr → ME SV
  | .Constant v _ _ => constE v
  | .Name x _ => nameE T c x
  | .BinOp a op b pos => mBin (T.isMut pos) op (r.e c a) (r.e c b)
  | .UnaryOp .USub a _ => mNeg (r.e c a)
  | .UnaryOp .Not a _ => vNot (r.e c a)
  | .BoolOp .And es _ => vAnds (es.map (r.e c))
  | .BoolOp .Or es _ => vOrs (es.map (r.e c))
  | .Compare a [op] [b] _ => if isSet b = true then mStuck else mCmp op (r.e c a) (r.e c b)
  | .Compare a [o1, o2] [b, d] _ => if isSet d = true then mStuck else mChain o1 o2 (r.e c a) (r.e c b) (r.e c d)
  | .IfExp t a b _ => mIf (r.t c t) (r.e c a) (r.e c b)
  | .Tuple es _ _ => mTup (argsE r c es)
  | .List es pos => mLst (T.isMut pos) (argsE r c es)
  | .Subscript a (.Slice lo hi none _) pos => mSlice (T.isMut pos) (r.e c a) (lo.map (r.e c)) (hi.map (r.e c))
  | .Subscript a i _ => if plainIx i = true then mIdx (r.e c a) (r.e c i) else mStuck
  | .Call (.Name f _) [] [] _ => call0E T call c f
  | .Call (.Name f _) args [] pos => callE T call r c pos f args
  | .Call (.Name f _) args (k :: ks) _ => callKE T call r c f args (k :: ks)
  | .Call (.Attribute o m ap) [e] [] pos => if m = ("append" : Str) ∧ isStar e = false ∧ plainBase o = true ∧ (ap.endLine == pos.line) = true then mAppend (r.e c o) (r.e c e) else mStuck
  | .ListComp elt [⟨tg, it, ifs, 0⟩] scope pos => if blkC c.N c.sc scope (blkOwn c scope) = true ∧ ¬ isSet it = true then (match tgE (c.sub scope) tg with
    | some g => if (g.slots.all fun i => ((blkOwn c scope).map (·.2)).contains i) = true then
        mComp (T.isMut pos) ((blkOwn c scope).map (·.2)) (iterE r c it) g (testsE r (c.sub scope) ifs) (r.e (c.sub scope) elt) else mStuck
    | none => mStuck) else mStuck
  | _ => mStuck
def stepT (r : EvT) (c : SC) : Expr → ME Bool
  | .BoolOp .And es _ => tAnds (es.map (r.t c))
  | .BoolOp .Or es _ => tOrs (es.map (r.t c))
  | .UnaryOp .Not a _ => tNotM (r.t c a)
  | .Compare a ops bs pos => tVal (stepE T call r c (.Compare a ops bs pos))
  | .Name x pos => tTru (stepE T call r c (.Name x pos))
  | .Call f as ks pos => tTru (stepE T call r c (.Call f as ks pos))
  | .Subscript a i pos => tTru (stepE T call r c (.Subscript a i pos))
  | _ => mStuck
def evN : Nat → EvT
  | 0 => ⟨fun _ _ => mStuck, fun _ _ => mStuck⟩
  | n + 1 => ⟨stepE T call (evN n), stepT T call (evN n)⟩
def isComp : Expr → Bool
  | .ListComp .. | .SetComp .. | .DictComp .. => true
  | _ => false
def isTupE : Expr → Bool
  | .Tuple .. => true
  | _ => false
def isList1 : Expr → Bool
  | .ListComp _ [⟨_, _, _, 0⟩] _ _ => true
  | _ => false
def parOk (c : SC) (x y : Str) (px py : Pos) (vs : List Expr) : Bool :=
  (match c.sc.kind with | .function => true | _ => false) && (match c.sc.names.lookup x with | some .local => true | _ => false) && (match c.sc.names.lookup y with | some .local => true | _ => false) &&
    decide (px.line = py.line) && decide (x ≠ y) && !(vs.any isStar) && !(vs.all (foldedForSure 8)) && !(vs.all (constantsAlone 8))
noncomputable def stepS (ev : EvT) (r : List Stmt → MS) (c : SC) : Stmt → MS
  | .Return (some e) _ => sRet (ev.e c e)
  | .Return none _ => fun _ h => .ret (.pv .non) h
  | .Assign [.Name x _] e _ => if c.sto x = true ∧ (isComp e = false ∨ isList1 e = true) then (match c.ix x with
    | some i => sPut (ev.e c e) (.name i)
    | none => fun _ _ => .stuck) else fun _ _ => .stuck
  | .Assign [.Subscript o i _] e _ => if plainIx i = true ∧ isComp e = false then sSto (ev.e c o) (ev.e c i) (ev.e c e) else fun _ _ => .stuck
  | .Assign [.Tuple [.Name x px, .Name y py] _ _] (.Tuple [a, b] _ _) _ => if parOk c x y px py [a, b] = true then (match c.ix x, c.ix y with
    | some i, some j => sPar2 i j (argsE ev c [a, b])
    | _, _ => fun _ _ => .stuck) else fun _ _ => .stuck
  | .Assign [.Tuple es k p] e _ => if isTupE e = false ∧ isComp e = false then (match tgE c (.Tuple es k p) with
    | some g => sPut (ev.e c e) g
    | none => fun _ _ => .stuck) else fun _ _ => .stuck
  | .AugAssign (.Name x _) op e _ => if c.sto x = true ∧ (op = .Add ∨ op = .Sub) then (match c.ix x with
    | some i => sAug op i (ev.e c e)
    | none => fun _ _ => .stuck) else fun _ _ => .stuck
  | .If t a b _ => sIf (ev.t c t) (r a) (r b)
  | .For tg it body [] _ => if isSet it = true then fun _ _ => .stuck else (match tgE c tg with
    | some g => sFor (iterE ev c it) g (r body)
    | none => fun _ _ => .stuck)
  | .While t body [] _ => whileLoop (ev.t c t) (r body) T.wf
  | .Expr e _ => if isComp e = false then sDrop (ev.e c e) else fun _ _ => .stuck
  | .Pass _ => fun σ h => .nx σ h
  | .Break _ => fun σ h => .brk σ h
  | .Continue _ => fun σ h => .cnt σ h
  | _ => fun _ _ => .stuck
def blkS (step : Stmt → MS) : List Stmt → MS
  | [] => fun σ h => .nx σ h
  | s :: r => sSeq (step s) (blkS step r)
noncomputable def exN (ev : EvT) (c : SC) : Nat → List Stmt → MS
  | 0 => fun _ _ _ => .stuck
  | n + 1 => blkS (stepS T ev (exN ev c n) c)
def sNx : MS := fun σ h => .nx σ h
def sBrk : MS := fun σ h => .brk σ h
def sCnt : MS := fun σ h => .cnt σ h
def sRetN : MS := fun _ h => .ret (.pv .non) h
def startS (N : List Str) (as : List SV) : Sl := as.map some ++ List.replicate (N.length - as.length) none
/-- what a def hands back: its own mutable lists are left, or fixed -/
def finR (keeps : Bool) (v : SV) (h h' : MH) : RE SV := match v with
  | .pv p => .ok (.pv p) (h'.take h.length)
  | .ref l => if l < h.length then .ok (.ref l) (h'.take h.length) else if keeps = true then .ok (.ref l) h' else match h'[l]? with
    | some (.lst xs) => .ok (.pv (.lst xs)) (h'.take h.length)
    | _ => .stuck
  | _ => .stuck
def endR (keeps : Bool) (h : MH) (r : RT) : RE SV := match r with
  | .nx _ h' => .ok (.pv .non) (h'.take h.length)
  | .ret v h' => finR keeps v h h'
  | .exc c fs _ h' => .exc c fs (h'.take h.length)
  | _ => .stuck
end
/-- the calls, k deep; ne, ns: the fuel of expressions and of blocks -/
noncomputable def callN (T : Tab) (ne ns : Nat) : Nat → Str → List SV → MH → RE SV
  | 0, _, _, _ => .stuck
  | k + 1, f, as, h => match T.fns.lookup f with
    | some fi => endR fi.keeps h (exN T (evN T (callN T ne ns k) ne) ⟨fi.N, fi.sc, none⟩ ns fi.body (startS fi.N as) h)
    | none => .stuck
theorem callN_eq {T : Tab} {ne ns k : Nat} {f : Str} {fi : FnI} {m : MS} {as : List SV} {h : MH} (hf : T.fns.lookup f = some fi) (hm : exN T (evN T (callN T ne ns k) ne) ⟨fi.N, fi.sc, none⟩ ns fi.body = m) :
    callN T ne ns (k + 1) f as h = endR fi.keeps h (m (startS fi.N as) h) := by
  show (match T.fns.lookup f with
    | some fi => endR fi.keeps h (exN T (evN T (callN T ne ns k) ne) ⟨fi.N, fi.sc, none⟩ ns fi.body (startS fi.N as) h)
    | none => .stuck) = _
  rw [hf, ← hm]
end Pv
/-! Pv3: how the pure reading stands in the heap; the reading of an expression as a wish. -/
namespace Pv
open PySem PySem.Spec PyProof.Rows L2

/-! ### values in the heap -/
def Le (F H : Hp) : Prop := ∀ a o, F a = some o → H a = some o
theorem Le.refl {F : Hp} : Le F F := fun _ _ h => h
theorem Le.trans {F G H : Hp} (x : Le F G) (y : Le G H) : Le F H := fun a o h => y a o (x a o h)
theorem Rd.mono {F H : Hp} {a : Addr} {u : HO} (x : Le F H) (h : Rd F a u) : Rd H a u := by
  rcases h with h | ⟨o, h⟩
  · exact .inl (x _ _ h)
  · exact .inr ⟨o, x _ _ h⟩
theorem SqT.mono {K : PySem.W.Frag} {F H : Hp} {a : Addr} {xs : List V} (x : Le F H) (h : SqT K F a xs) : SqT K H a xs := by
  rcases h with h | h
  · exact .inl (Rd.mono x h)
  · exact .inr h
theorem SqL.mono {K : PySem.W.Frag} {F H : Hp} {a : Addr} {xs : List V} (x : Le F H) (h : SqL K F a xs) : SqL K H a xs := by
  rcases h with h | h
  · exact .inl (Rd.mono x h)
  · exact .inr h
mutual
def RP (K : PySem.W.Frag) (F : Hp) : PV → V → Prop
  | .non, v => v = .non
  | .bl b, v => v = .bl b
  | .int i, v => v = .int i
  | .str x, v => v = .str x
  | .tup xs, v => ∃ a vs, v = .ref a ∧ SqT K F a vs ∧ RPs K F xs vs
  | .lst xs, v => ∃ a vs, v = .ref a ∧ F a = some (.lst vs) ∧ RPs K F xs vs
  | .scr ns, v => ∃ a, v = .ref a ∧ SqL K F a (ns.map V.int)
def RPs (K : PySem.W.Frag) (F : Hp) : List PV → List V → Prop
  | [], vs => vs = []
  | x :: xs, vs => ∃ v r, vs = v :: r ∧ RP K F x v ∧ RPs K F xs r
end
mutual
theorem RP.mono {K : PySem.W.Frag} {F H : Hp} (x : Le F H) : ∀ (p : PV) (v : V), RP K F p v → RP K H p v
  | .non, v, h => h
  | .bl b, v, h => h
  | .int i, v, h => h
  | .str y, v, h => h
  | .tup xs, v, h => by
    obtain ⟨a, vs, e, h1, h2⟩ := h
    exact ⟨a, vs, e, SqT.mono x h1, RPs.mono x xs vs h2⟩
  | .lst xs, v, h => by
    obtain ⟨a, vs, e, h1, h2⟩ := h
    exact ⟨a, vs, e, x _ _ h1, RPs.mono x xs vs h2⟩
  | .scr ns, v, h => by
    obtain ⟨a, e, h1⟩ := h
    exact ⟨a, e, SqL.mono x h1⟩
theorem RPs.mono {K : PySem.W.Frag} {F H : Hp} (x : Le F H) : ∀ (ps : List PV) (vs : List V), RPs K F ps vs → RPs K H ps vs
  | [], vs, h => h
  | p :: ps, vs, h => by
    obtain ⟨v, r, e, h1, h2⟩ := h
    exact ⟨v, r, e, RP.mono x p v h1, RPs.mono x ps r h2⟩
end
section
variable {K : PySem.W.Frag} {F H : Hp}
mutual
theorem RP.dp : ∀ (p : PV) (v : V), RP K F p v → Dp K F v p.data
  | .non, v, h => by cases h; exact .non
  | .bl b, v, h => by cases h; exact .bl b
  | .int i, v, h => by cases h; exact .int i
  | .str y, v, h => by cases h; exact .str y
  | .tup xs, v, h => by
    obtain ⟨a, vs, rfl, h1, h2⟩ := h
    exact .tup h1 (RPs.dp xs vs h2)
  | .lst xs, v, h => by
    obtain ⟨a, vs, rfl, h1, h2⟩ := h
    exact .lst (SqL.of h1) (RPs.dp xs vs h2)
  | .scr ns, v, h => by
    obtain ⟨a, rfl, h1⟩ := h
    refine .lst h1 ?_
    clear h1
    induction ns with
    | nil => exact .nil
    | cons n ns ih => exact .cons (.int n) ih
theorem RPs.dp : ∀ (ps : List PV) (vs : List V), RPs K F ps vs → DpAll K F vs (PV.datas ps)
  | [], vs, h => by cases h; exact .nil
  | p :: ps, vs, h => by
    obtain ⟨v, r, rfl, h1, h2⟩ := h
    exact .cons (RP.dp p v h1) (RPs.dp ps r h2)
end
theorem RPs.length : ∀ {ps : List PV} {vs : List V}, RPs K F ps vs → ps.length = vs.length
  | [], vs, h => by cases h; rfl
  | p :: ps, vs, h => by
    obtain ⟨v, r, rfl, h1, h2⟩ := h
    simp [RPs.length h2]
theorem RPs.get : ∀ {ps : List PV} {vs : List V} {i : Nat} {p : PV}, RPs K F ps vs → ps[i]? = some p → ∃ v, vs[i]? = some v ∧ RP K F p v
  | [], vs, i, p, h, e => by simp at e
  | q :: ps, vs, 0, p, h, e => by
    obtain ⟨v, r, rfl, h1, h2⟩ := h
    simp at e
    subst e
    exact ⟨v, rfl, h1⟩
  | q :: ps, vs, i + 1, p, h, e => by
    obtain ⟨v, r, rfl, h1, h2⟩ := h
    obtain ⟨w, e1, e2⟩ := RPs.get (i := i) h2 (by simpa using e)
    exact ⟨w, by simpa using e1, e2⟩
theorem RPs.append : ∀ {ps qs : List PV} {vs ws : List V}, RPs K F ps vs → RPs K F qs ws → RPs K F (ps ++ qs) (vs ++ ws)
  | [], qs, vs, ws, h, g => by cases h; exact g
  | p :: ps, qs, vs, ws, h, g => by
    obtain ⟨v, r, rfl, h1, h2⟩ := h
    exact ⟨v, r ++ ws, rfl, h1, RPs.append h2 g⟩
theorem RPs.take : ∀ {ps : List PV} {vs : List V} (n : Nat), RPs K F ps vs → RPs K F (ps.take n) (vs.take n)
  | ps, vs, 0, h => by simp [RPs]
  | [], vs, n + 1, h => by cases h; simp [RPs]
  | p :: ps, vs, n + 1, h => by
    obtain ⟨v, r, rfl, h1, h2⟩ := h
    exact ⟨v, r.take n, rfl, h1, RPs.take n h2⟩
theorem RPs.drop : ∀ {ps : List PV} {vs : List V} (n : Nat), RPs K F ps vs → RPs K F (ps.drop n) (vs.drop n)
  | ps, vs, 0, h => h
  | [], vs, n + 1, h => by cases h; simp [RPs]
  | p :: ps, vs, n + 1, h => by
    obtain ⟨v, r, rfl, h1, h2⟩ := h
    exact RPs.drop n h2
theorem RPs.set : ∀ {ps : List PV} {vs : List V} (i : Nat) {p : PV} {v : V}, RPs K F ps vs → RP K F p v → RPs K F (ps.set i p) (vs.set i v)
  | [], vs, i, p, v, h, g => by cases h; simp [RPs]
  | q :: ps, vs, 0, p, v, h, g => by
    obtain ⟨w, r, rfl, h1, h2⟩ := h
    exact ⟨v, r, rfl, g, h2⟩
  | q :: ps, vs, i + 1, p, v, h, g => by
    obtain ⟨w, r, rfl, h1, h2⟩ := h
    exact ⟨w, r.set i v, rfl, h1, RPs.set i h2 g⟩
theorem RPs.rep : ∀ {ps : List PV} {vs : List V} (n : Nat), RPs K F ps vs → RPs K F (List.replicate n ps).flatten (List.replicate n vs).flatten
  | ps, vs, 0, h => by simp [RPs]
  | ps, vs, n + 1, h => by
    simp only [List.replicate_succ, List.flatten_cons]
    exact h.append (RPs.rep n h)
theorem RPs.ints : ∀ {ps : List PV} {vs : List V} {ns : List Int}, intsOf ps = some ns → RPs K F ps vs → vs = ns.map V.int
  | [], vs, ns, e, h => by
    cases h
    simp [intsOf] at e
    subst e
    rfl
  | p :: ps, vs, ns, e, h => by
    obtain ⟨v, r, rfl, h1, h2⟩ := h
    cases p with
    | int i =>
      simp only [intsOf, Option.map_eq_some_iff] at e
      obtain ⟨ms, e1, rfl⟩ := e
      rw [RPs.ints e1 h2]
      cases h1
      rfl
    | _ => simp [intsOf] at e
theorem RPs.of_ints : ∀ {ns : List Int}, RPs K F (ns.map PV.int) (ns.map V.int)
  | [] => rfl
  | n :: ns => ⟨_, _, rfl, rfl, RPs.of_ints⟩
theorem RPs.cut {ps : List PV} {vs : List V} (lo hi : Option Int) (h : RPs K F ps vs) : RPs K F (cutP ps lo hi) (cutV vs lo hi) := by
  unfold cutP cutV
  rw [h.length]
  exact (h.drop _).take _
end

/-! ### what a name holds -/
def RS (K : PySem.W.Frag) (mg : Str → Option Value) (F : Hp) (μ : List Addr) : SV → V → Prop
  | .pv p, v => RP K F p v
  | .ref l, v => ∃ a, μ[l]? = some a ∧ v = .ref a
  | .ty t, v => v = .ty t.name
  | .cls c, v => ∃ C, mg c = some (.ref C) ∧ v = .ref C
  | .exc _ _, v => ∃ a, v = .ref a
def RSs (K : PySem.W.Frag) (mg : Str → Option Value) (F : Hp) (μ : List Addr) : List SV → List V → Prop
  | [], vs => vs = []
  | x :: xs, vs => ∃ v r, vs = v :: r ∧ RS K mg F μ x v ∧ RSs K mg F μ xs r
/-- what is fixed stays, the mutable lists keep their places -/
structure Ex (F : Hp) (μ : List Addr) (H : Hp) (F' : Hp) (μ' : List Addr) (H' : Hp) : Prop where
  le : Le F F'
  pre : μ <+: μ'
  keep : ∀ a o, H a = some o → a ∉ μ → H' a = some o
  new : ∀ a, a ∈ μ' → a ∈ μ ∨ H a = none
  newF : ∀ a o, F' a = some o → F a = some o ∨ H a = none ∨ a ∈ μ
  dom : ∀ a, H' a = none → H a = none
theorem Ex.refl {F H : Hp} {μ : List Addr} : Ex F μ H F μ H := ⟨Le.refl, List.prefix_refl _, fun _ _ e _ => e, fun _ h => .inl h, fun _ _ h => .inl h, fun _ h => h⟩
theorem Ex.trans {F G K H H1 H2 : Hp} {μ ν ρ : List Addr} (x : Ex F μ H G ν H1) (y : Ex G ν H1 K ρ H2) : Ex F μ H K ρ H2 := by
  have nn : ∀ a o, H a = some o → a ∉ μ → a ∉ ν := fun a o e n hm => by
    rcases x.new a hm with z | z
    · exact n z
    · rw [e] at z; cases z
  refine ⟨x.le.trans y.le, x.pre.trans y.pre, fun a o e n => y.keep a o (x.keep a o e n) (nn a o e n), fun a hm => ?_, fun a o e => ?_, fun a e => x.dom a (y.dom a e)⟩
  · rcases y.new a hm with z | z
    · exact x.new a z
    · exact .inr (x.dom a z)
  · rcases y.newF a o e with z | z | z
    · exact x.newF a o z
    · exact .inr (.inl (x.dom a z))
    · rcases x.new a z with z | z
      · exact .inr (.inr z)
      · exact .inr (.inl z)
theorem pre_get {μ μ' : List Addr} {l : Nat} {a : Addr} (p : μ <+: μ') (h : μ[l]? = some a) : μ'[l]? = some a := by
  obtain ⟨r, rfl⟩ := p
  rw [List.getElem?_append_left (List.getElem?_eq_some_iff.mp h).1]
  exact h
section
variable {K : PySem.W.Frag} {mg : Str → Option Value} {F F' H H' : Hp} {μ μ' : List Addr} {σ : L2.St} {s : Sl} {h h' : MH}
theorem RS.mono0 (le : Le F F') (pre : μ <+: μ') : ∀ {a : SV} {v : V}, RS K mg F μ a v → RS K mg F' μ' a v
  | .pv p, v, h => RP.mono le p v h
  | .ref l, v, h => by
    obtain ⟨a, h1, h2⟩ := h
    exact ⟨a, pre_get pre h1, h2⟩
  | .ty t, v, h => h
  | .cls c, v, h => h
  | .exc _ _, v, h => h
theorem RS.mono (x : Ex F μ H F' μ' H') {a : SV} {v : V} (r : RS K mg F μ a v) : RS K mg F' μ' a v := r.mono0 x.le x.pre
theorem RSs.mono (x : Ex F μ H F' μ' H') : ∀ {as : List SV} {vs : List V}, RSs K mg F μ as vs → RSs K mg F' μ' as vs
  | [], vs, h => h
  | a :: as, vs, h => by
    obtain ⟨v, r, e, h1, h2⟩ := h
    exact ⟨v, r, e, h1.mono x, RSs.mono x h2⟩
/-- the pure state stands in the slots and the heap: F what never changes, μ where the mutable lists lie -/
structure Rp (K : PySem.W.Frag) (mg : Str → Option Value) (F : Hp) (μ : List Addr) (σ : L2.St) (H : Hp) (s : Sl) (h : MH) : Prop where
  le : Le F H
  len : μ.length = h.length
  nod : μ.Nodup
  mt : ∀ (l : Nat) (a : Addr) (xs : List PV), μ[l]? = some a → h[l]? = some (.lst xs) → F a = none ∧ ∃ vs, H a = some (.lst vs) ∧ RPs K F xs vs
  slots : ∀ (i : Nat) (v : SV), s[i]? = some (some v) → ∃ w, σ[i]? = some (some w) ∧ RS K mg F μ v w
  sl : s.length = σ.length
  all : ∀ a, a ∈ μ → ∃ vs, H a = some (.lst vs)
/-- the fixed part grows by new objects alone, all that stood stands -/
structure Gro (F H F' H' : Hp) : Prop where
  le : Le F F'
  ok : Le F' H'
  gr : Le H H'
  new : ∀ a o, F' a = some o → F a = some o ∨ H a = none
theorem Gro.refl (x : Le F H) : Gro F H F H := ⟨Le.refl, x, Le.refl, fun _ _ h => .inl h⟩
theorem Gro.new1 {p : Addr} {o : HO} (x : Le F H) (n : H p = none) : Gro F H (upd F p o) (upd H p o) := by
  refine ⟨fun a u e => ?_, fun a u e => ?_, fun a u e => ?_, fun a u e => ?_⟩
  · rw [upd_ne (ne_of_none (x _ _ e) n)]; exact e
  · by_cases h : a = p
    · subst h; rw [upd_same] at e ⊢; exact e
    · rw [upd_ne h] at e ⊢; exact x _ _ e
  · rw [upd_ne (ne_of_none e n)]; exact e
  · by_cases h : a = p
    · subst h; exact .inr n
    · rw [upd_ne h] at e; exact .inl e
theorem Rp.gro (R : Rp K mg F μ σ H s h) (g : Gro F H F' H') : Rp K mg F' μ σ H' s h where
  le := g.ok
  len := R.len
  nod := R.nod
  mt := fun l a xs e1 e2 => by
    obtain ⟨n, vs, e3, r⟩ := R.mt l a xs e1 e2
    refine ⟨?_, vs, g.gr _ _ e3, RPs.mono g.le _ _ r⟩
    cases e : F' a with
    | none => rfl
    | some o =>
      rcases g.new a o e with z | z
      · rw [n] at z; cases z
      · rw [e3] at z; cases z
  slots := fun i v e => by
    obtain ⟨w, e1, r⟩ := R.slots i v e
    exact ⟨w, e1, r.mono0 g.le (List.prefix_refl _)⟩
  sl := R.sl
  all := fun a ha => by
    obtain ⟨vs, e⟩ := R.all a ha
    exact ⟨vs, g.gr _ _ e⟩
theorem Rp.ex (g : Gro F H F' H') : Ex F μ H F' μ H' := ⟨g.le, List.prefix_refl _, fun a o e _ => g.gr a o e, fun _ h => .inl h, fun a o e => (g.new a o e).elim .inl fun z => .inr (.inl z), fun a e => by
    cases q : H a with
    | none => rfl
    | some o => rw [g.gr a o q] at e; cases e⟩
/-- a new mutable list -/
theorem Rp.notin {D : Addr} (R : Rp K mg F μ σ H s h) (hD : H D = none) : F D = none ∧ D ∉ μ := by
  refine ⟨?_, fun hm => ?_⟩
  · cases e : F D with
    | none => rfl
    | some o => rw [R.le D o e] at hD; cases hD
  · obtain ⟨vs, e⟩ := R.all D hm
    rw [hD] at e
    cases e
theorem Rp.alloc {p : Addr} {xs : List PV} {vs : List V} (R : Rp K mg F μ σ H s h) (n : H p = none) (r : RPs K F xs vs) : Rp K mg F (μ ++ [p]) σ (upd H p (.lst vs)) s (h ++ [.lst xs]) := by
  obtain ⟨Fp, npμ⟩ := R.notin n
  refine ⟨fun a o e => ?_, by simp [R.len], ?_, fun l a ys e1 e2 => ?_, fun i v e => ?_, R.sl, fun a ha => ?_⟩
  · rw [upd_ne (ne_of_none (R.le _ _ e) n)]; exact R.le _ _ e
  · rw [List.nodup_append]
    refine ⟨R.nod, by simp, fun a ha b hb e => ?_⟩
    simp at hb
    subst hb e
    exact npμ ha
  · by_cases hl : l < μ.length
    · rw [List.getElem?_append_left hl] at e1
      rw [List.getElem?_append_left (by rw [← R.len]; exact hl)] at e2
      obtain ⟨m, ws, e3, r3⟩ := R.mt l a ys e1 e2
      refine ⟨m, ws, ?_, r3⟩
      rw [upd_ne (ne_of_none e3 n)]; exact e3
    · have hl' : l = μ.length := by
        have := (List.getElem?_eq_some_iff.mp e1).1
        simp at this
        omega
      subst hl'
      rw [List.getElem?_append_right (Nat.le_refl _)] at e1
      rw [R.len, List.getElem?_append_right (Nat.le_refl _)] at e2
      simp at e1 e2
      subst e1 e2
      exact ⟨Fp, vs, upd_same, r⟩
  · obtain ⟨w, e1, r1⟩ := R.slots i v e
    exact ⟨w, e1, r1.mono0 Le.refl (List.prefix_append _ _)⟩
  · rcases List.mem_append.mp ha with z | z
    · obtain ⟨ws, e⟩ := R.all a z
      exact ⟨ws, by rw [upd_ne (ne_of_none e n)]; exact e⟩
    · simp at z; subst z; exact ⟨vs, upd_same⟩
theorem Ex.alloc {p : Addr} {o : HO} (n : H p = none) : Ex F μ H F (μ ++ [p]) (upd H p o) :=
  ⟨Le.refl, List.prefix_append _ _, fun a u e _ => by rw [upd_ne (ne_of_none e n)]; exact e, fun a hm => by
    rcases List.mem_append.mp hm with z | z
    · exact .inl z
    · simp at z; subst z; exact .inr n, fun _ _ h => .inl h, fun a e => by
      by_cases h : a = p
      · subst h; exact n
      · rw [upd_ne h] at e; exact e⟩
theorem Ex.write {a : Addr} {o : HO} (hm : a ∈ μ) : Ex F μ H F μ (upd H a o) :=
  ⟨Le.refl, List.prefix_refl _, fun b u e n => by rw [upd_ne (show b ≠ a from fun z => n (by rw [z]; exact hm))]; exact e, fun _ h => .inl h, fun _ _ h => .inl h, fun b e => by
    by_cases h : b = a
    · subst h; rw [upd_same] at e; cases e
    · rw [upd_ne h] at e; exact e⟩
/-- an object beside: neither fixed nor a mutable list of ours -/
theorem Rp.other {D : Addr} {o : HO} (R : Rp K mg F μ σ H s h) (hF : F D = none) (hD : D ∉ μ) : Rp K mg F μ σ (upd H D o) s h := by
  refine ⟨fun a u e => ?_, R.len, R.nod, fun l a xs e1 e2 => ?_, R.slots, R.sl, fun a ha => ?_⟩
  · rw [upd_ne (show a ≠ D from fun z => by rw [z, hF] at e; cases e)]
    exact R.le a u e
  · obtain ⟨n, vs, e3, r⟩ := R.mt l a xs e1 e2
    refine ⟨n, vs, ?_, r⟩
    rw [upd_ne (show a ≠ D from fun z => hD (by rw [← z]; exact List.mem_of_getElem? e1))]
    exact e3
  · obtain ⟨ws, e⟩ := R.all a ha
    exact ⟨ws, by rw [upd_ne (show a ≠ D from fun z => hD (by rw [← z]; exact ha))]; exact e⟩
/-- a mutable list is written -/
theorem Rp.write {l : Nat} {a : Addr} {xs zs : List PV} {vs : List V} (R : Rp K mg F μ σ H s h) (hl : μ[l]? = some a) (hz : h[l]? = some (.lst zs)) (r : RPs K F xs vs) : Rp K mg F μ σ (upd H a (.lst vs)) s (h.set l (.lst xs)) := by
  have hlt : l < h.length := (List.getElem?_eq_some_iff.mp hz).1
  obtain ⟨n, ws, eH, _⟩ := R.mt l a _ hl hz
  refine ⟨fun b o e => ?_, by simp [R.len], R.nod, fun k b ys e1 e2 => ?_, R.slots, R.sl, fun b hb => ?_⟩
  · by_cases hb : b = a
    · subst hb; rw [n] at e; cases e
    · rw [upd_ne hb]; exact R.le _ _ e
  · by_cases hk : k = l
    · subst hk
      rw [hl] at e1; cases e1
      rw [List.getElem?_set_self hlt] at e2
      cases e2
      exact ⟨n, vs, upd_same, r⟩
    · rw [List.getElem?_set_ne (Ne.symm hk)] at e2
      obtain ⟨m, us, e3, r3⟩ := R.mt k b ys e1 e2
      refine ⟨m, us, ?_, r3⟩
      rw [upd_ne]; exact e3
      intro e
      subst e
      obtain ⟨p1, q1⟩ := List.getElem?_eq_some_iff.mp hl
      obtain ⟨p2, q2⟩ := List.getElem?_eq_some_iff.mp e1
      exact hk ((List.getElem_inj R.nod).mp (q2.trans q1.symm))
  · by_cases hb' : b = a
    · exact ⟨vs, by rw [hb']; exact upd_same⟩
    · obtain ⟨us, e⟩ := R.all b hb
      exact ⟨us, by rw [upd_ne hb']; exact e⟩
/-- a mutable list is fixed as it is -/
theorem Rp.fix {l : Nat} {a : Addr} {xs : List PV} (R : Rp K mg F μ σ H s h) (hl : μ[l]? = some a) (hz : h[l]? = some (.lst xs)) :
    ∃ F', Ex F μ H F' μ H ∧ Rp K mg F' μ σ H s (h.set l .dead) ∧ RP K F' (.lst xs) (.ref a) := by
  obtain ⟨n, vs, eH, r⟩ := R.mt l a _ hl hz
  have hlt : l < h.length := (List.getElem?_eq_some_iff.mp hz).1
  have le2 : Le F (upd F a (.lst vs)) := fun b u e => by rw [upd_ne (ne_of_none e n)]; exact e
  refine ⟨upd F a (.lst vs), ⟨le2, List.prefix_refl _, fun _ _ e _ => e, fun _ h => .inl h, fun b o e => ?_, fun _ h => h⟩, ⟨fun b o e => ?_, by simp [R.len], R.nod, fun k b ys e1 e2 => ?_, fun i v e => ?_, R.sl, R.all⟩, ⟨a, vs, rfl, upd_same, RPs.mono le2 _ _ r⟩⟩
  · by_cases hb : b = a
    · exact .inr (.inr (by rw [hb]; exact List.mem_of_getElem? hl))
    · rw [upd_ne hb] at e; exact .inl e
  · by_cases hb : b = a
    · subst hb; rw [upd_same] at e; cases e; exact eH
    · rw [upd_ne hb] at e; exact R.le _ _ e
  · by_cases hk : k = l
    · subst hk
      rw [List.getElem?_set_self hlt] at e2
      cases e2
    · rw [List.getElem?_set_ne (Ne.symm hk)] at e2
      obtain ⟨m, us, e3, r3⟩ := R.mt k b ys e1 e2
      refine ⟨?_, us, e3, RPs.mono le2 _ _ r3⟩
      rw [upd_ne]; exact m
      intro e
      subst e
      obtain ⟨p1, q1⟩ := List.getElem?_eq_some_iff.mp hl
      obtain ⟨p2, q2⟩ := List.getElem?_eq_some_iff.mp e1
      exact hk ((List.getElem_inj R.nod).mp (q2.trans q1.symm))
  · obtain ⟨w, e1, r1⟩ := R.slots i v e
    exact ⟨w, e1, r1.mono0 le2 (List.prefix_refl _)⟩
theorem Rp.frz1 {x : SV} {v : V} {p : PV} {h' : MH} (R : Rp K mg F μ σ H s h) (r : RS K mg F μ x v) (e : x.frz h = some (p, h')) : ∃ F', Ex F μ H F' μ H ∧ Rp K mg F' μ σ H s h' ∧ RP K F' p v := by
  cases x with
  | pv q =>
    cases e
    exact ⟨F, .refl, R, r⟩
  | ref l =>
    obtain ⟨xs, hz, rfl, rfl⟩ := SV.frz_ref e
    obtain ⟨a, hl, rfl⟩ := r
    exact R.fix hl hz
  | _ => cases e
theorem Rp.frzs : ∀ {xs : List SV} {vs : List V} {ps : List PV} {F : Hp} {h h' : MH}, Rp K mg F μ σ H s h → RSs K mg F μ xs vs → frzAll h xs = some (ps, h') → ∃ F', Ex F μ H F' μ H ∧ Rp K mg F' μ σ H s h' ∧ RPs K F' ps vs
  | [], vs, ps, F, h, h', R, r, e => by
    cases r
    cases e
    exact ⟨F, .refl, R, rfl⟩
  | x :: xs, vs, ps, F, h, h', R, r, e => by
    obtain ⟨v, rr, rfl, r1, r2⟩ := r
    unfold frzAll at e
    split at e
    · rename_i p h1 e1
      split at e
      · rename_i qs h2 e2
        cases e
        obtain ⟨F1, x1, R1, p1⟩ := R.frz1 r1 e1
        obtain ⟨F2, x2, R2, p2⟩ := R1.frzs (r2.mono x1) e2
        exact ⟨F2, x1.trans x2, R2, v, rr, rfl, RP.mono x2.le _ _ p1, p2⟩
      · cases e
    · cases e
/-- a slot is stored -/
theorem Rp.slot {i : Nat} {v : SV} {w : V} (R : Rp K mg F μ σ H s h) (r : RS K mg F μ v w) : Rp K mg F μ (σ.set i (some w)) H (s.set i (some v)) h := by
  refine ⟨R.le, R.len, R.nod, R.mt, fun j u e => ?_, by simp [R.sl], R.all⟩
  by_cases hj : i = j
  · subst hj
    by_cases hi : i < s.length
    · rw [List.getElem?_set_self hi] at e
      cases e
      exact ⟨w, by rw [List.getElem?_set_self (by rw [← R.sl]; exact hi)], r⟩
    · rw [List.getElem?_eq_none (by simpa using hi)] at e; cases e
  · rw [List.getElem?_set_ne hj] at e ⊢
    exact R.slots j u e
theorem Rp.clear {i : Nat} (R : Rp K mg F μ σ H s h) : Rp K mg F μ (σ.set i none) H (s.set i none) h := by
  refine ⟨R.le, R.len, R.nod, R.mt, fun j u e => ?_, by simp [R.sl], R.all⟩
  by_cases hj : i = j
  · subst hj
    by_cases hi : i < s.length
    · rw [List.getElem?_set_self hi] at e; cases e
    · rw [List.getElem?_eq_none (by simpa using hi)] at e; cases e
  · rw [List.getElem?_set_ne hj] at e ⊢
    exact R.slots j u e
theorem Rp.wipe (R : Rp K mg F μ σ H s h) : ∀ vs : List Nat, Rp K mg F μ (wipe σ vs) H (wipeS s vs) h
  | [] => R
  | v :: vs => (Rp.wipe R vs).clear
end

/-! ### wishes -/
theorem Rp.swap {K : PySem.W.Frag} {mg : Str → Option Value} {F F' H H' : Hp} {μ μ' : List Addr} {σ : L2.St} {s : Sl} {h h' : MH} (R : Rp K mg F μ σ H s h) (x : Ex F μ H F' μ' H') (R' : Rp K mg F' μ' [] H' [] h') : Rp K mg F' μ' σ H' s h' :=
  ⟨R'.le, R'.len, R'.nod, R'.mt, fun i v e => by
    obtain ⟨w, e1, r⟩ := R.slots i v e
    exact ⟨w, e1, r.mono x⟩, R.sl, R'.all⟩
theorem Rp.bare {K : PySem.W.Frag} {mg : Str → Option Value} {F H : Hp} {μ : List Addr} {σ : L2.St} {s : Sl} {h : MH} (R : Rp K mg F μ σ H s h) : Rp K mg F μ [] H [] h :=
  ⟨R.le, R.len, R.nod, R.mt, fun i v e => by simp at e, rfl, R.all⟩
/-- an error as it stands: its class, its fields in the dict at d -/
def RX (K : PySem.W.Frag) (mg : Str → Option Value) (F H : Hp) (c : Str) (fs : List (Str × PV)) (cls : Value) (d : Option Addr) : Prop :=
  ∃ C, mg c = some (.ref C) ∧ cls = .ref C ∧ match d with
    | none => fs = []
    | some dx => ∃ gs, H dx = some (.xd gs) ∧ ∀ f p, fs.lookup f = some p → ∃ v, gs.lookup f = some v ∧ RP K F p v
section
variable {α β α' β' : Type}
/-- what a result means from the state (F, μ, σ, s) on -/
def At (K : PySem.W.Frag) (mg : Str → Option Value) (W : WX) (rel : Hp → List Addr → α → β → Prop) (F : Hp) (μ : List Addr) (σ : L2.St) (H : Hp) (s : Sl) (r : RE α) (Q : β → Hp → Prop) : Prop := match r with
  | .ok a h' => ∀ F' μ' H' b, Ex F μ H F' μ' H' → Rp K mg F' μ' σ H' s h' → rel F' μ' a b → Q b H'
  | .exc c fs h' => ∀ F' μ' H' cls d, Ex F μ H F' μ' H' → Rp K mg F' μ' σ H' s h' → RX K mg F' H' c fs cls d → W cls d σ H'
  | .stuck => False
def WM (X : Cx) (W : WX) (rel : Hp → List Addr → α → β → Prop) (m : ME α) : L2.St → Hp → (β → Hp → Prop) → Prop := fun σ H Q =>
  ∃ F μ s h, Rp X.K X.mg F μ σ H s h ∧ At X.K X.mg W rel F μ σ H s (m s h) Q
abbrev tM (X : Cx) (W : WX) (m : ME SV) : TE := WM X W (RS X.K X.mg) m
abbrev tMs (X : Cx) (W : WX) (m : ME (List SV)) : TA := WM X W (RSs X.K X.mg) m
abbrev tMB (X : Cx) (W : WX) (m : ME Bool) : TT := WM X W (fun _ _ a b => a = b) m
variable {X : Cx} {W : WX} {rel : Hp → List Addr → α → β → Prop} {rel' : Hp → List Addr → α' → β' → Prop} {F H : Hp} {μ : List Addr} {σ : L2.St} {s : Sl} {h : MH}
theorem At.mono {r : RE α} {Q Q' : β → Hp → Prop} (x : At X.K X.mg W rel F μ σ H s r Q) (k : ∀ b H', Q b H' → Q' b H') : At X.K X.mg W rel F μ σ H s r Q' := by
  cases r with
  | ok a h' => exact fun F' μ' H' b e R r => k _ _ (x F' μ' H' b e R r)
  | exc c fs h' => exact x
  | stuck => exact x
theorem At.ex {F' H' : Hp} {μ' : List Addr} {r : RE α} {Q : β → Hp → Prop} (x : At X.K X.mg W rel F μ σ H s r Q) (e : Ex F μ H F' μ' H') : At X.K X.mg W rel F' μ' σ H' s r Q := by
  cases r with
  | ok a h' => exact fun F' μ' H' b e' R r => x F' μ' H' b (e.trans e') R r
  | exc c fs h' => exact fun F' μ' H' cls d e' R r => x F' μ' H' cls d (e.trans e') R r
  | stuck => exact x
theorem At.bind {m : ME α'} {k : α' → ME α} {Q : β → Hp → Prop} (x : At X.K X.mg W rel F μ σ H s (mBind m k s h) Q) :
    At X.K X.mg W rel' F μ σ H s (m s h) (fun b H' => ∃ F' μ' h' a, Ex F μ H F' μ' H' ∧ Rp X.K X.mg F' μ' σ H' s h' ∧ rel' F' μ' a b ∧ At X.K X.mg W rel F' μ' σ H' s (k a s h') Q) := by
  unfold mBind at x
  cases e : m s h with
  | ok a h' =>
    rw [e] at x
    exact fun F' μ' H' b ex R r => ⟨F', μ', h', a, ex, R, r, x.ex ex⟩
  | exc c fs h' =>
    rw [e] at x
    exact x
  | stuck =>
    rw [e] at x
    exact x
end
theorem PE.weak {X : Cx} {e : Expr} {t t' : TE} (h : PE X e t) (k : ∀ σ H Q, t' σ H Q → t σ H Q) : PE X e t' := ⟨fun pins s σ H Q I q => h.run pins s σ H Q I (k _ _ _ q)⟩
theorem PT.weak {X : Cx} {e : Expr} {t t' : TT} (h : PT X e t) (k : ∀ σ H Q, t' σ H Q → t σ H Q) : PT X e t' := ⟨fun pins s σ H Q I q => h.run pins s σ H Q I (k _ _ _ q)⟩
theorem PW.weak {X : Cx} {e : Expr} {t t' : TT} (h : PW X e t) (k : ∀ σ H Q, t' σ H Q → t σ H Q) : PW X e t' := ⟨fun wh pins s σ H Q I q => h.run wh pins s σ H Q I (k _ _ _ q)⟩
theorem PA.weak {X : Cx} {e : List Expr} {t t' : TA} (h : PA X e t) (k : ∀ σ H Q, t' σ H Q → t σ H Q) : PA X e t' := ⟨fun p pins s σ H Q I q => h.run p pins s σ H Q I (k _ _ _ q)⟩
theorem PS.weak {X : Cx} {e : Stmt} {t t' : TS} (h : PS X e t) (k : ∀ D σ H, t' D σ H → t D σ H) : PS X e t' := ⟨fun pins s σ H D I q => h.run pins s σ H D I (k _ _ _ q)⟩
theorem PSs.weak {X : Cx} {e : List Stmt} {t t' : TS} (h : PSs X e t) (k : ∀ D σ H, t' D σ H → t D σ H) : PSs X e t' := ⟨fun pins s σ H D I q => h.run pins s σ H D I (k _ _ _ q)⟩
/-- a def's promise: what the pure call gives -/
def spM (K : PySem.W.Frag) (mg : Str → Option Value) (call : List SV → MH → RE SV) (np : Nat) : Sp := fun vs H Q E =>
  vs.length = np ∧ ∃ F μ h as, Rp K mg F μ [] H [] h ∧ RSs K mg F μ as vs ∧ At K mg (fun cls d _ H' => E cls d H') (RS K mg) F μ [] H [] (call as h) Q
/-- nothing is promised where the reading is stuck -/
theorem stkE {X : Cx} {W : WX} {e : Expr} : PE X e (tM X W mStuck) := ⟨fun _ _ _ _ _ _ ⟨_, _, _, _, _, z⟩ => z.elim⟩
theorem stkT {X : Cx} {W : WX} {e : Expr} : PT X e (tMB X W mStuck) := ⟨fun _ _ _ _ _ _ ⟨_, _, _, _, _, z⟩ => z.elim⟩
end Pv
/-! Pv4: expressions. -/
namespace Pv
open PySem PySem.Spec PyProof.Rows L2

def blts : List Str := ["len", "abs", "int", "max", "min", "sum", "list", "tuple", "divmod", "bool", "str", "range", "isinstance"]
structure Cn (T : Tab) (call : Str → List SV → MH → RE SV) (k : Nat) (c : SC) (X : Cx) : Prop where
  N : X.N = c.N
  nd : c.N.Nodup
  sc : X.env.scope = c.sc
  calm : X.calm = true
  fn : ∀ x, c.sto x = true → X.fn x = true ∨ X.env.scope.names.lookup x = some .local
  room : Room k X.A
  con : ∀ x v, T.consts.lookup x = some v → ∃ u w, X.mg x = some u ∧ RelV w u ∧ ∀ F, RP X.K F v w
  blt : ∀ x, x ∈ blts → X.mg x = none
  fns : ∀ f fi, T.fns.lookup f = some fi → ∃ a fd, X.mg f = some (.ref a) ∧ PySem.W.keepIn X.K (.ref a) = true ∧ Binds X.K fd fi.ps [] ∧ (∀ n, n ∈ fi.kwn → KBn X.K fd fi.ps n (fi.ps.drop n) (fun us ws => us ++ ws) (fun vs zs => vs ++ zs)) ∧
    FnOk X.prog X.w X.K X.mg X.base (L2.CX X.prog X.w) k a fd fi.ps (spM X.K X.mg (call f) fi.ps.length)

section
variable {X : Cx} {W : WX}
/-! ### names, constants -/
theorem s_const {v : Const} {j : Nat} {pos : Pos} : PE X (.Constant v j pos) (tM X W (constE v)) := by
  cases v with
  | none => exact PE.weak pe_non fun σ H Q ⟨F, μ, s, h, R, q⟩ => q F μ H .non .refl R rfl
  | bool b => exact PE.weak pe_bl fun σ H Q ⟨F, μ, s, h, R, q⟩ => q F μ H (.bl b) .refl R rfl
  | int i => exact PE.weak pe_int fun σ H Q ⟨F, μ, s, h, R, q⟩ => q F μ H (.int i) .refl R rfl
  | str x => exact PE.weak pe_str fun σ H Q ⟨F, μ, s, h, R, q⟩ => q F μ H (.str x) .refl R rfl
  | float _ => exact stkE
  | complex _ _ => exact stkE
  | bytes _ => exact stkE
  | ellipsis => exact stkE
theorem okName_dbg {x : Str} (h : okName x = true) : (x == ("__debug__" : Str)) = false := by
  unfold okName at h
  simp only [Bool.and_eq_true, Bool.not_eq_true'] at h
  exact h.1
theorem okName_cld {x : Str} (h : okName x = true) : (x == ("__classdict__" : Str)) = false := by
  unfold okName at h
  simp only [Bool.and_eq_true, Bool.not_eq_true'] at h
  exact h.2
theorem vis_of {c : SC} {x : Str} (h : c.vis x = true) : Vis c.sc x := by
  unfold SC.vis at h
  unfold Vis
  split at h
  · exact .inl (by assumption)
  · exact .inr (.inl (by assumption))
  · exact .inr (.inr (by assumption))
  · cases h
theorem gl_of {c : SC} {x : Str} (h : c.gl x = true) : c.sc.names.lookup x = some .globalImplicit := by
  unfold SC.gl at h
  split at h
  · assumption
  · cases h
theorem ix_of {c : SC} {x : Str} {i : Nat} (h : c.ix x = some i) : c.N[i]? = some x := by
  unfold SC.ix at h
  obtain ⟨hi, h1, _⟩ := List.findIdx?_eq_some_iff_getElem.mp h
  rw [List.getElem?_eq_getElem hi]
  simpa using h1
theorem mem_of_lookup {α : Type} {l : List (Str × α)} {x : Str} {v : α} (h : l.lookup x = some v) : (x, v) ∈ l := by
  induction l with
  | nil => simp at h
  | cons p l ih =>
    obtain ⟨y, w⟩ := p
    rw [List.lookup_cons] at h
    cases e : x == y with
    | true =>
      rw [e] at h
      cases h
      rw [eq_of_beq e]
      exact List.mem_cons_self
    | false =>
      rw [e] at h
      exact List.mem_cons_of_mem _ (ih h)
theorem tyOf_boot {x : Str} {t : Ty} (h : tyOf x = some t) : bootBuiltins x = some (.type t.name) ∧ x ∈ blts ∧ x ≠ "__name__" := by
  have hm := mem_of_lookup h
  simp only [List.mem_cons, List.not_mem_nil, or_false, Prod.mk.injEq] at hm
  rcases hm with ⟨rfl, rfl⟩ | ⟨rfl, rfl⟩ | ⟨rfl, rfl⟩ | ⟨rfl, rfl⟩ | ⟨rfl, rfl⟩
  · exact ⟨boot_int, by decide, by decide⟩
  · exact ⟨boot_bool, by decide, by decide⟩
  · exact ⟨boot_str, by decide, by decide⟩
  · exact ⟨boot_tuple, by decide, by decide⟩
  · exact ⟨boot_list, by decide, by decide⟩
variable {T : Tab} {call : Str → List SV → MH → RE SV} {k : Nat} {c : SC}
theorem Cn.gl (C : Cn T call k c X) {x : Str} (h : c.gl x = true) : Gl X x := by
  show X.env.scope.names.lookup x = _
  rw [C.sc]
  exact gl_of h
theorem s_name (C : Cn T call k c X) {x : Str} {pos : Pos} : PE X (.Name x pos) (tM X W (nameE T c x)) := by
  unfold nameE
  by_cases ho : okName x = false
  · rw [if_pos ho]; exact stkE
  rw [if_neg ho]
  have hok : okName x = true := by simpa using ho
  by_cases hv : c.vis x = true
  · rw [if_pos hv]
    cases hi : c.ix x with
    | none => exact stkE
    | some i =>
      refine PE.weak (pe_var (i := i) (by rw [C.N]; exact ix_of hi) (by rw [C.sc]; exact vis_of hv) (okName_dbg hok) (okName_cld hok)) fun σ H Q ⟨F, μ, s, h, R, q⟩ => ?_
      unfold mVar at q
      cases e : s[i]? with
      | none => simp only [e] at q; exact q.elim
      | some o =>
        cases o with
        | none => simp only [e] at q; exact q.elim
        | some v =>
          simp only [e] at q
          obtain ⟨w, e1, r⟩ := R.slots i v e
          exact ⟨w, e1, q F μ H w .refl R r⟩
  · rw [if_neg hv]
    by_cases hg : c.gl x = true
    · rw [if_pos hg]
      cases hc : T.consts.lookup x with
      | some v =>
        obtain ⟨u, w, e1, e2, e3⟩ := C.con x v hc
        exact PE.weak (pe_glob (C.gl hg) e1 e2 (okName_dbg hok)) fun σ H Q ⟨F, μ, s, h, R, q⟩ => q F μ H w .refl R (e3 F)
      | none =>
        cases ht : tyOf x with
        | none => exact stkE
        | some t =>
          obtain ⟨b1, b2, b3⟩ := tyOf_boot ht
          exact PE.weak (pe_bltn (v := .ty t.name) (C.gl hg) (C.blt x b2) b1 rfl b3 (okName_dbg hok)) fun σ H Q ⟨F, μ, s, h, R, q⟩ => q F μ H _ .refl R rfl
    · rw [if_neg hg]; exact stkE

/-! ### operators -/
/-- what is wanted of the value made: a new list may lie anywhere -/
def Res (K : PySem.W.Frag) (F H : Hp) (r : PV) (Q : VK) : Prop := match r with
  | .lst xs => ∀ p vs, H p = none → RPs K F xs vs → Q (.ref p) (upd H p (.lst vs))
  | r => ∀ F' H' v, Gro F H F' H' → RP K F' r v → Q v H'
def rBin (K : PySem.W.Frag) (op : Operator) : R2 := fun x y H Q => ∃ F a b r, Le F H ∧ RP K F a x ∧ RP K F b y ∧ binV op a b = some r ∧ Res K F H r Q
theorem CMul_of {i j : Int} (h : i.natAbs < 2 ^ 64 ∨ j.natAbs < 2 ^ 64) : CMul i j := by
  rcases h with h | h
  · exact .inl (by omega)
  · exact .inr (by omega)
theorem opBin (op : Operator) : OpR X (binaryOp op) (rBin X.K op) := by
  intro pins s σ H x y v u Q I rx ry h
  obtain ⟨F, a, b, r, le, ra, rb, e, q⟩ := h
  unfold binV at e
  split at e
  · cases ra; cases rb; cases e
    exact op_add pins s σ H _ _ v u Q I rx ry ⟨_, _, rfl, rfl, q F H _ (.refl le) rfl⟩
  · cases ra; cases rb
    split at e
    · rename_i hl
      cases e
      exact op_add_str pins s σ H _ _ v u Q I rx ry ⟨_, _, rfl, rfl, hl, q F H _ (.refl le) rfl⟩
    · cases e
  · obtain ⟨a1, vs, rfl, s1, r1⟩ := ra
    obtain ⟨a2, ws, rfl, s2, r2⟩ := rb
    split at e
    · rename_i xs ys hl
      cases e
      rw [r1.length, r2.length] at hl
      refine op_catA pins s σ H _ _ v u Q I rx ry ⟨a1, a2, vs, ws, rfl, rfl, SqT.mono le s1, SqT.mono le s2, hl, fun e => ?_, fun _ e => ?_, fun _ _ p n => ?_⟩
      · subst e
        refine q F H _ (.refl le) ⟨a2, ws, rfl, s2, ?_⟩
        have := r1.append r2
        simpa using this
      · subst e
        refine q F H _ (.refl le) ⟨a1, vs, rfl, s1, ?_⟩
        have := r1.append r2
        simpa using this
      · exact q _ _ _ (Gro.new1 le n) ⟨p, _, rfl, SqT.of upd_same, (RPs.mono (Gro.new1 le n).le _ _ (r1.append r2))⟩
    · cases e
  · obtain ⟨a1, vs, rfl, s1, r1⟩ := ra
    obtain ⟨a2, ws, rfl, s2, r2⟩ := rb
    split at e
    · rename_i xs ys hl
      cases e
      rw [r1.length, r2.length] at hl
      exact op_cat pins s σ H _ _ v u Q I rx ry ⟨a1, a2, vs, ws, rfl, rfl, le _ _ s1, le _ _ s2, hl, fun p n => q p _ n (r1.append r2)⟩
    · cases e
  · cases ra; cases rb; cases e
    exact op_sub pins s σ H _ _ v u Q I rx ry ⟨_, _, rfl, rfl, q F H _ (.refl le) rfl⟩
  · cases ra; cases rb
    split at e
    · rename_i hl
      cases e
      rcases hl with hl | hl | hl
      · exact op_mul pins s σ H _ _ v u Q I rx ry ⟨_, _, rfl, rfl, CMul_of (.inl hl), q F H _ (.refl le) rfl⟩
      · exact op_mul pins s σ H _ _ v u Q I rx ry ⟨_, _, rfl, rfl, CMul_of (.inr hl), q F H _ (.refl le) rfl⟩
      · exact op_mulW pins s σ H _ _ v u Q I rx ry ⟨_, _, rfl, rfl, hl, q F H _ (.refl le) rfl⟩
    · cases e
  · obtain ⟨a1, vs, rfl, s1, r1⟩ := ra
    cases rb
    split at e
    · rename_i xs k hl
      cases e
      rw [r1.length] at hl
      obtain ⟨h0, h2, h3, h4⟩ := hl
      exact op_repT pins s σ H _ _ v u Q I rx ry ⟨a1, _, vs, rfl, rfl, SqT.mono le s1, (by intro e; subst e; simp at h0), h2, h3, h4, fun p n => q _ _ _ (Gro.new1 le n) ⟨p, _, rfl, SqT.of upd_same, (RPs.mono (Gro.new1 le n).le _ _ (r1.rep _))⟩⟩
    · cases e
  · obtain ⟨a1, vs, rfl, s1, r1⟩ := ra
    cases rb
    split at e
    · rename_i xs k hl
      cases e
      rw [r1.length] at hl
      obtain ⟨h2, h3, h4⟩ := hl
      exact op_rep pins s σ H _ _ v u Q I rx ry ⟨a1, _, vs, rfl, rfl, le _ _ s1, h2, h3, h4, fun p n => q p _ n (r1.rep _)⟩
    · cases e
  · cases ra; cases rb
    split at e
    · rename_i hl
      cases e
      rcases hl with ⟨h0, hl | hl⟩
      · exact op_fdiv pins s σ H _ _ v u Q I rx ry ⟨_, _, rfl, rfl, ⟨h0, hl⟩, q F H _ (.refl le) rfl⟩
      · exact op_fdivW pins s σ H _ _ v u Q I rx ry ⟨_, _, rfl, rfl, ⟨h0, hl⟩, q F H _ (.refl le) rfl⟩
    · cases e
  · cases ra; cases rb
    split at e
    · rename_i hl
      cases e
      exact op_mod pins s σ H _ _ v u Q I rx ry ⟨_, _, rfl, rfl, hl, q F H _ (.refl le) rfl⟩
    · cases e
  · cases ra; cases rb
    split at e
    · rename_i hl
      cases e
      exact op_pow pins s σ H _ _ v u Q I rx ry ⟨_, _, rfl, rfl, hl, q F H _ (.refl le) rfl⟩
    · cases e
  · cases e
variable {a b d : Expr} {ma mb md : ME SV} {pos : Pos}
theorem At.opt {α β : Type} {rel : Hp → List Addr → α → β → Prop} {F H : Hp} {μ : List Addr} {σ : L2.St} {s : Sl} {h : MH} {o : Option α} {Q : β → Hp → Prop} (x : At X.K X.mg W rel F μ σ H s (mOpt o s h) Q) :
    ∃ a, o = some a ∧ At X.K X.mg W rel F μ σ H s (.ok a h) Q := by
  cases o with
  | none => exact x.elim
  | some a => exact ⟨a, rfl, x⟩
end
end Pv
/-! Pv5: comparisons, tests, displays. -/
namespace Pv
open PySem PySem.Spec PyProof.Rows L2
section
variable {X : Cx} {W : WX} {a b d : Expr} {ma mb md : ME SV} {pos : Pos}
theorem Room.hu {k : Nat} {A : Around} (r : Room k A) : A.units + 65 < cLine := by have := r.un; omega
theorem Rp.rd {K : PySem.W.Frag} {mg : Str → Option Value} {F H : Hp} {μ : List Addr} {σ : L2.St} {s : Sl} {h : MH} (R : Rp K mg F μ σ H s h) {x : SV} {v : V} {p : PV} (r : RS K mg F μ x v) (e : x.rd h = some p) : RP K H p v := by
  cases x with
  | pv q =>
    cases e
    exact RP.mono R.le _ _ r
  | ref l =>
    obtain ⟨a, h1, rfl⟩ := r
    obtain ⟨xs, h2, rfl⟩ := SV.rd_ref e
    obtain ⟨_, vs, h3, h4⟩ := R.mt l a xs h1 h2
    exact ⟨a, vs, rfl, h3, RPs.mono R.le _ _ h4⟩
  | _ => cases e
theorem RS.non {K : PySem.W.Frag} {mg : Str → Option Value} {F : Hp} {μ : List Addr} {x : SV} {v : V} (r : RS K mg F μ x v) : decide (v = .non) = isNon x := by
  cases x with
  | pv q =>
    cases q with
    | non => cases r; rfl
    | bl _ => cases r; rfl
    | int _ => cases r; rfl
    | str _ => cases r; rfl
    | tup _ => obtain ⟨_, _, rfl, _⟩ := r; rfl
    | lst _ => obtain ⟨_, _, rfl, _⟩ := r; rfl
    | scr _ => obtain ⟨_, rfl, _⟩ := r; rfl
  | ref l => obtain ⟨_, _, rfl⟩ := r; rfl
  | ty t => cases r; rfl
  | cls c => obtain ⟨_, _, rfl⟩ := r; rfl
  | exc c fs => obtain ⟨_, rfl⟩ := r; rfl
theorem isNon_v {K : PySem.W.Frag} {mg : Str → Option Value} {F : Hp} {μ : List Addr} {x : SV} {v : V} (r : RS K mg F μ x v) (h : isNon x = true) : v = .non := by
  have := r.non
  rw [h] at this
  exact of_decide_eq_true this
/-- flat values are their own -/
def toV : PV → V
  | .non => .non
  | .bl b => .bl b
  | .int i => .int i
  | .str x => .str x
  | _ => .non
theorem RP.flat {K : PySem.W.Frag} {F : Hp} {p : PV} {v : V} (h : flatP p = true) (r : RP K F p v) : v = toV p ∧ flatV v = true := by
  cases p <;> first | (cases r; exact ⟨rfl, rfl⟩) | cases h
theorem RPs.flat {K : PySem.W.Frag} {F : Hp} : ∀ {ps : List PV} {vs : List V}, ps.all flatP = true → RPs K F ps vs → vs = ps.map toV ∧ vs.all flatV = true
  | [], vs, _, r => by cases r; exact ⟨rfl, rfl⟩
  | p :: ps, vs, h, r => by
    obtain ⟨v, rr, rfl, r1, r2⟩ := r
    simp only [List.all_cons, Bool.and_eq_true] at h
    obtain ⟨e1, f1⟩ := RP.flat h.1 r1
    obtain ⟨e2, f2⟩ := RPs.flat h.2 r2
    refine ⟨by rw [e1, e2]; rfl, by simp [f1, f2]⟩
theorem eqV_toV {p q : PV} (hp : flatP p = true) (hq : flatP q = true) : eqV (toV p) (toV q) = eqFP p q := by
  cases p <;> cases q <;> first | (exact absurd hp (by decide)) | (exact absurd hq (by decide)) | (cases hp; done) | (cases hq; done) | rfl
theorem inV_of {x : PV} (hx : flatP x = true) : ∀ {ys : List PV}, ys.all flatP = true → inV (toV x) (ys.map toV) = ys.any fun z => eqFP z x
  | [], _ => rfl
  | y :: ys, h => by
    simp only [List.all_cons, Bool.and_eq_true] at h
    have ih := inV_of hx h.2
    unfold inV at ih ⊢
    simp only [List.map_cons, List.any_cons, ih, eqV_toV h.1 hx]
def rCmp (K : PySem.W.Frag) (op : CmpOp) : R2 := fun x y H Q => ∃ a b r, RP K H a x ∧ RP K H b y ∧ cmpP op a b = some r ∧ Q (.bl r) H
def rIs (op : CmpOp) : R2 := fun x y H Q => y = .non ∧ ((op = .Is ∧ Q (.bl (decide (x = .non))) H) ∨ (op = .IsNot ∧ Q (.bl (!decide (x = .non))) H))
theorem opEq (hu : X.A.units + 65 < cLine) : OpR X (compareOp .Eq) (rCmp X.K .Eq) := by
  intro pins s σ H x y v u Q I rx ry h
  obtain ⟨a, b, r, ra, rb, e, q⟩ := h
  simp only [cmpP] at e
  unfold eqP at e
  split at e
  · cases ra; cases rb; cases e
    exact op_eq pins s σ H _ _ v u Q I rx ry ⟨rfl, by simpa using q⟩
  · cases ra; cases rb; cases e
    exact op_eq pins s σ H _ _ v u Q I rx ry ⟨rfl, by simpa using q⟩
  · cases ra; cases rb; cases e
    exact op_eq pins s σ H _ _ v u Q I rx ry ⟨rfl, by simpa using q⟩
  · split at e
    · rename_i hs
      cases e
      rw [Bool.and_eq_true] at hs
      exact op_eqD (by omega) pins s σ H _ _ v u Q I rx ry ⟨_, _, RP.dp _ _ ra, RP.dp _ _ rb, hs.1, hs.2, q⟩
    · cases e
theorem opNe (hu : X.A.units + 65 < cLine) : OpR X (compareOp .NotEq) (rCmp X.K .NotEq) := by
  intro pins s σ H x y v u Q I rx ry h
  obtain ⟨a, b, r, ra, rb, e, q⟩ := h
  simp only [cmpP, Option.map_eq_some_iff] at e
  obtain ⟨r', e, rfl⟩ := e
  unfold eqP at e
  split at e
  · cases ra; cases rb; cases e
    exact op_ne pins s σ H _ _ v u Q I rx ry ⟨rfl, by simpa using q⟩
  · cases ra; cases rb; cases e
    exact op_ne pins s σ H _ _ v u Q I rx ry ⟨rfl, by simpa using q⟩
  · cases ra; cases rb; cases e
    exact op_ne pins s σ H _ _ v u Q I rx ry ⟨rfl, by simpa using q⟩
  · split at e
    · rename_i hs
      cases e
      rw [Bool.and_eq_true] at hs
      exact op_neD (by omega) pins s σ H _ _ v u Q I rx ry ⟨_, _, RP.dp _ _ ra, RP.dp _ _ rb, hs.1, hs.2, q⟩
    · cases e
theorem opIn (hu : X.A.units + 65 < cLine) : OpR X (compareOp .In) (rCmp X.K .In) := by
  intro pins s σ H x y v u Q I rx ry h
  obtain ⟨a, b, r, ra, rb, e, q⟩ := h
  simp only [cmpP] at e
  unfold inP at e
  split at e
  · split at e
    · rename_i hf
      cases e
      rw [Bool.and_eq_true] at hf
      obtain ⟨p, vs, rfl, h1, h2⟩ := rb
      obtain ⟨e1, f1⟩ := RP.flat hf.1 ra
      obtain ⟨e2, f2⟩ := RPs.flat hf.2 h2
      refine op_in_seq pins s σ H _ _ v u Q I rx ry ⟨p, vs, rfl, .inl (SqL.of h1), f1, f2, ?_⟩
      rw [e1, e2, inV_of hf.1 hf.2]
      exact q
    · split at e
      · rename_i hs
        cases e
        rw [Bool.and_eq_true] at hs
        exact op_inD hu pins s σ H _ _ v u Q I rx ry ⟨_, _, RP.dp _ _ ra, RP.dp _ _ rb, hs.1, hs.2, q⟩
      · cases e
  · split at e
    · rename_i hf
      cases e
      rw [Bool.and_eq_true] at hf
      obtain ⟨p, vs, rfl, h1, h2⟩ := rb
      obtain ⟨e1, f1⟩ := RP.flat hf.1 ra
      obtain ⟨e2, f2⟩ := RPs.flat hf.2 h2
      refine op_in_seq pins s σ H _ _ v u Q I rx ry ⟨p, vs, rfl, .inr h1, f1, f2, ?_⟩
      rw [e1, e2, inV_of hf.1 hf.2]
      exact q
    · cases e
  · split at e
    · cases e
      cases ra; cases rb
      exact op_in_str pins s σ H _ _ v u Q I rx ry ⟨_, _, rfl, rfl, q⟩
    · cases e
  · cases e
theorem opNotIn (hu : X.A.units + 65 < cLine) : OpR X (compareOp .NotIn) (rCmp X.K .NotIn) := by
  intro pins s σ H x y v u Q I rx ry h
  obtain ⟨a, b, r, ra, rb, e, q⟩ := h
  simp only [cmpP, Option.map_eq_some_iff] at e
  obtain ⟨r', e, rfl⟩ := e
  unfold inP at e
  split at e
  · split at e
    · rename_i hf
      cases e
      rw [Bool.and_eq_true] at hf
      obtain ⟨p, vs, rfl, h1, h2⟩ := rb
      obtain ⟨e1, f1⟩ := RP.flat hf.1 ra
      obtain ⟨e2, f2⟩ := RPs.flat hf.2 h2
      refine op_notIn_seq pins s σ H _ _ v u Q I rx ry ⟨p, vs, rfl, .inl (SqL.of h1), f1, f2, ?_⟩
      rw [e1, e2, inV_of hf.1 hf.2]
      exact q
    · split at e
      · rename_i hs
        cases e
        rw [Bool.and_eq_true] at hs
        exact op_notInD hu pins s σ H _ _ v u Q I rx ry ⟨_, _, RP.dp _ _ ra, RP.dp _ _ rb, hs.1, hs.2, q⟩
      · cases e
  · split at e
    · rename_i hf
      cases e
      rw [Bool.and_eq_true] at hf
      obtain ⟨p, vs, rfl, h1, h2⟩ := rb
      obtain ⟨e1, f1⟩ := RP.flat hf.1 ra
      obtain ⟨e2, f2⟩ := RPs.flat hf.2 h2
      refine op_notIn_seq pins s σ H _ _ v u Q I rx ry ⟨p, vs, rfl, .inr h1, f1, f2, ?_⟩
      rw [e1, e2, inV_of hf.1 hf.2]
      exact q
    · cases e
  · split at e
    · cases e
      cases ra; cases rb
      exact op_notin_str pins s σ H _ _ v u Q I rx ry ⟨_, _, rfl, rfl, q⟩
    · cases e
  · cases e
theorem opOrd (hu : X.A.units + 65 < cLine) {op : CmpOp} (ho : op = .Lt ∨ op = .LtE ∨ op = .Gt ∨ op = .GtE) : OpR X (compareOp op) (rCmp X.K op) := by
  intro pins s σ H x y v u Q I rx ry h
  obtain ⟨a, b, r, ra, rb, e, q⟩ := h
  have e : ordV op a b = some r := by
    rcases ho with rfl | rfl | rfl | rfl <;> exact e
  unfold ordV at e
  split at e
  · cases ra; cases rb; cases e
    exact op_lt pins s σ H _ _ v u Q I rx ry ⟨_, _, rfl, rfl, q⟩
  · cases ra; cases rb; cases e
    exact op_le pins s σ H _ _ v u Q I rx ry ⟨_, _, rfl, rfl, q⟩
  · cases ra; cases rb; cases e
    exact op_gt pins s σ H _ _ v u Q I rx ry ⟨_, _, rfl, rfl, q⟩
  · cases ra; cases rb; cases e
    exact op_ge pins s σ H _ _ v u Q I rx ry ⟨_, _, rfl, rfl, q⟩
  · obtain ⟨a1, vs, rfl, s1, r1⟩ := ra
    obtain ⟨a2, ws, rfl, s2, r2⟩ := rb
    split at e
    · rename_i e1 e2
      cases e
      rw [RPs.ints e1 r1] at s1
      rw [RPs.ints e2 r2] at s2
      exact op_ltT (by omega) pins s σ H _ _ v u Q I rx ry ⟨_, _, _, _, rfl, rfl, s1, s2, q⟩
    · cases e
  · cases e
def rCV (K : PySem.W.Frag) (op : CmpOp) : R2 := fun x y H Q => rCmp K op x y H Q ∨ rIs op x y H Q
theorem opCV (hu : X.A.units + 65 < cLine) (op : CmpOp) : OpR X (compareOp op) (rCV X.K op) := by
  intro pins s σ H x y v u Q I rx ry h
  cases op with
  | Eq =>
    rcases h with h | ⟨_, ⟨e, _⟩ | ⟨e, _⟩⟩
    · exact opEq hu pins s σ H x y v u Q I rx ry h
    · cases e
    · cases e
  | NotEq =>
    rcases h with h | ⟨_, ⟨e, _⟩ | ⟨e, _⟩⟩
    · exact opNe hu pins s σ H x y v u Q I rx ry h
    · cases e
    · cases e
  | In =>
    rcases h with h | ⟨_, ⟨e, _⟩ | ⟨e, _⟩⟩
    · exact opIn hu pins s σ H x y v u Q I rx ry h
    · cases e
    · cases e
  | NotIn =>
    rcases h with h | ⟨_, ⟨e, _⟩ | ⟨e, _⟩⟩
    · exact opNotIn hu pins s σ H x y v u Q I rx ry h
    · cases e
    · cases e
  | Lt =>
    rcases h with h | ⟨_, ⟨e, _⟩ | ⟨e, _⟩⟩
    · exact opOrd hu (by simp) pins s σ H x y v u Q I rx ry h
    · cases e
    · cases e
  | LtE =>
    rcases h with h | ⟨_, ⟨e, _⟩ | ⟨e, _⟩⟩
    · exact opOrd hu (by simp) pins s σ H x y v u Q I rx ry h
    · cases e
    · cases e
  | Gt =>
    rcases h with h | ⟨_, ⟨e, _⟩ | ⟨e, _⟩⟩
    · exact opOrd hu (by simp) pins s σ H x y v u Q I rx ry h
    · cases e
    · cases e
  | GtE =>
    rcases h with h | ⟨_, ⟨e, _⟩ | ⟨e, _⟩⟩
    · exact opOrd hu (by simp) pins s σ H x y v u Q I rx ry h
    · cases e
    · cases e
  | Is =>
    rcases h with ⟨_, _, _, _, _, e, _⟩ | ⟨e, ⟨_, q⟩ | ⟨e', _⟩⟩
    · cases e
    · exact op_isN pins s σ H x y v u Q I rx ry ⟨e, q⟩
    · cases e'
  | IsNot =>
    rcases h with ⟨_, _, _, _, _, e, _⟩ | ⟨e, ⟨e', _⟩ | ⟨_, q⟩⟩
    · cases e
    · cases e'
    · exact op_notN pins s σ H x y v u Q I rx ry ⟨e, q⟩
theorem cmpV_r {K : PySem.W.Frag} {mg : Str → Option Value} {F H : Hp} {μ : List Addr} {σ : L2.St} {s : Sl} {h : MH} (R : Rp K mg F μ σ H s h) {op : CmpOp} {x y : SV} {v w : V} {r : Bool} {Q : VK}
    (rx : RS K mg F μ x v) (ry : RS K mg F μ y w) (e : cmpV op x y h = some r) (q : Q (.bl r) H) : rCV K op v w H Q := by
  have gen : (match x.rd h, y.rd h with | some a, some b => cmpP op a b | _, _ => none) = some r → rCV K op v w H Q := fun e => by
    split at e
    · rename_i a b ea eb
      exact .inl ⟨a, b, r, R.rd rx ea, R.rd ry eb, e, q⟩
    · cases e
  cases op with
  | Is =>
    simp only [cmpV] at e
    split at e
    · rename_i hn
      cases e
      exact .inr ⟨isNon_v ry hn, .inl ⟨rfl, by rw [rx.non]; exact q⟩⟩
    · cases e
  | IsNot =>
    simp only [cmpV] at e
    split at e
    · rename_i hn
      cases e
      exact .inr ⟨isNon_v ry hn, .inr ⟨rfl, by rw [rx.non]; exact q⟩⟩
    · cases e
  | _ => exact gen e
theorem setMark {b : Expr} {op : CmpOp} (h : ¬ isSet b = true) : behindInMarks op b = false := by
  cases b <;> first | rfl | (exact absurd rfl h)
theorem cmp_read {op : CmpOp} {σ : L2.St} {H : Hp} {Q : VK} (q : tM X W (mCmp op ma mb) σ H Q) : tOp (rCV X.K op) (tM X W ma) (tM X W mb) σ H Q := by
  obtain ⟨F, μ, s, h, R, q⟩ := q
  refine ⟨F, μ, s, h, R, (At.bind q).mono fun x H1 ⟨F1, μ1, h1, sx, e1, R1, rx, q1⟩ => ⟨F1, μ1, s, h1, R1, (At.bind q1).mono fun y H2 ⟨F2, μ2, h2, sy, e2, R2, ry, q2⟩ => ?_⟩⟩
  cases e : cmpV op sx sy h2 with
  | none => simp only [e] at q2; exact q2.elim
  | some r =>
    simp only [e] at q2
    exact cmpV_r R2 (rx.mono e2) ry e (q2 F2 μ2 H2 _ .refl R2 rfl)
theorem tval_read {σ : L2.St} {H : Hp} {Q : Bool → Hp → Prop} (q : tMB X W (tVal ma) σ H Q) : tM X W ma σ H (fun x H' => ∃ k, x = .bl k ∧ Q k H') := by
  obtain ⟨F, μ, s, h, R, q⟩ := q
  refine ⟨F, μ, s, h, R, (At.bind (rel' := RS X.K X.mg) q).mono fun x H1 ⟨F1, μ1, h1, sx, e1, R1, rx, q1⟩ => ?_⟩
  match sx, rx, q1 with
  | .pv (.bl b), rx, q1 =>
    cases rx
    exact ⟨b, rfl, q1 F1 μ1 H1 b .refl R1 rfl⟩
  | .pv .non, _, q1 => exact q1.elim
  | .pv (.int _), _, q1 => exact q1.elim
  | .pv (.str _), _, q1 => exact q1.elim
  | .pv (.tup _), _, q1 => exact q1.elim
  | .pv (.lst _), _, q1 => exact q1.elim
  | .pv (.scr _), _, q1 => exact q1.elim
  | .ref _, _, q1 => exact q1.elim
  | .ty _, _, q1 => exact q1.elim
  | .cls _, _, q1 => exact q1.elim
  | .exc _ _, _, q1 => exact q1.elim
theorem s_cmp (hu : X.A.units + 65 < cLine) {op : CmpOp} (hm : ¬ isSet b = true) (ha : PE X a (tM X W ma)) (hb : PE X b (tM X W mb)) : PE X (.Compare a [op] [b] pos) (tM X W (mCmp op ma mb)) :=
  PE.weak (pe_cmpR (opCV hu op) ha hb (setMark hm)) fun σ H Q q => cmp_read q
theorem t_cmp (hu : X.A.units + 65 < cLine) {op : CmpOp} (hm : ¬ isSet b = true) (ha : PE X a (tM X W ma)) (hb : PE X b (tM X W mb)) : PT X (.Compare a [op] [b] pos) (tMB X W (tVal (mCmp op ma mb))) :=
  PT.weak (pt_cmpR (opCV hu op) ha hb (setMark hm)) fun σ H Q q => cmp_read (tval_read q)
theorem chain_read {o1 o2 : CmpOp} {σ : L2.St} {H : Hp} {Q : VK} (q : tM X W (mChain o1 o2 ma mb md) σ H Q) : tChain (rCV X.K o1) (rCV X.K o2) (tM X W ma) (tM X W mb) (tM X W md) σ H Q := by
  obtain ⟨F, μ, s, h, R, q⟩ := q
  refine ⟨F, μ, s, h, R, (At.bind q).mono fun x H1 ⟨F1, μ1, h1, sx, e1, R1, rx, q1⟩ => ⟨F1, μ1, s, h1, R1, (At.bind q1).mono fun y H2 ⟨F2, μ2, h2, sy, e2, R2, ry, q2⟩ => ?_⟩⟩
  cases e : cmpV o1 sx sy h2 with
  | none => simp only [e] at q2; exact q2.elim
  | some r =>
    refine cmpV_r R2 (rx.mono e2) ry e ⟨r, rfl, ?_⟩
    cases r with
    | false =>
      simp only [e] at q2
      exact q2 F2 μ2 H2 _ .refl R2 rfl
    | true =>
      simp only [e] at q2
      rw [if_pos rfl]
      refine ⟨F2, μ2, s, h2, R2, (At.bind q2).mono fun z H3 ⟨F3, μ3, h3, sz, e3, R3, rz, q3⟩ => ?_⟩
      cases e' : cmpV o2 sy sz h3 with
      | none => simp only [e'] at q3; exact q3.elim
      | some r =>
        simp only [e'] at q3
        exact cmpV_r R3 (ry.mono e3) rz e' (q3 F3 μ3 H3 _ .refl R3 rfl)
theorem setMarks {b d : Expr} {o1 o2 : CmpOp} (h : ¬ isSet d = true) : lastMarks [o1, o2] [b, d] = false := setMark h
theorem s_chain (hu : X.A.units + 65 < cLine) {o1 o2 : CmpOp} (hm : ¬ isSet d = true) (ha : PE X a (tM X W ma)) (hb : PE X b (tM X W mb)) (hd : PE X d (tM X W md)) : PE X (.Compare a [o1, o2] [b, d] pos) (tM X W (mChain o1 o2 ma mb md)) :=
  PE.weak (pe_chain (opCV hu o1) (opCV hu o2) ha hb hd (setMarks hm)) fun σ H Q q => chain_read q
theorem t_chain (hu : X.A.units + 65 < cLine) {o1 o2 : CmpOp} (hm : ¬ isSet d = true) (ha : PE X a (tM X W ma)) (hb : PE X b (tM X W mb)) (hd : PE X d (tM X W md)) : PT X (.Compare a [o1, o2] [b, d] pos) (tMB X W (tVal (mChain o1 o2 ma mb md))) :=
  PT.weak (pt_chain (opCV hu o1) (opCV hu o2) ha hb hd (setMarks hm)) fun σ H Q q => chain_read (tval_read q)
/-! ### tests -/
theorem s_neg (ha : PE X a (tM X W ma)) : PE X (.UnaryOp .USub a pos) (tM X W (mNeg ma)) := by
  refine PE.weak (pe_un un_neg ha) fun σ H Q ⟨F, μ, s, h, R, q⟩ => ?_
  refine ⟨F, μ, s, h, R, (At.bind q).mono fun x H1 ⟨F1, μ1, h1, sx, e1, R1, rx, q1⟩ => ?_⟩
  match sx, rx, q1 with
  | .pv (.int i), rx, q1 =>
    cases rx
    exact ⟨i, rfl, q1 F1 μ1 H1 _ .refl R1 rfl⟩
  | .pv .non, _, q1 => exact q1.elim
  | .pv (.bl _), _, q1 => exact q1.elim
  | .pv (.str _), _, q1 => exact q1.elim
  | .pv (.tup _), _, q1 => exact q1.elim
  | .pv (.lst _), _, q1 => exact q1.elim
  | .pv (.scr _), _, q1 => exact q1.elim
  | .ref _, _, q1 => exact q1.elim
  | .ty _, _, q1 => exact q1.elim
  | .cls _, _, q1 => exact q1.elim
  | .exc _ _, _, q1 => exact q1.elim
theorem RP.truth {K : PySem.W.Frag} {H : Hp} {p : PV} {v : V} {b : Bool} (r : RP K H p v) (e : (match p with
  | .non => some false
  | .bl b => some b
  | .int i => some (i != 0)
  | .tup xs => some (!xs.isEmpty)
  | .lst xs => some (!xs.isEmpty)
  | _ => none) = some b) : TruV K v H b := by
  cases p with
  | non => cases r; cases e; rfl
  | bl _ => cases r; cases e; rfl
  | int _ => cases r; cases e; rfl
  | tup xs =>
    obtain ⟨a, vs, rfl, h1, h2⟩ := r
    cases e
    have := h2.length
    refine .inr (.inl ⟨vs, h1, ?_⟩)
    cases xs <;> cases vs <;> first | rfl | (simp at this)
  | lst xs =>
    obtain ⟨a, vs, rfl, h1, h2⟩ := r
    cases e
    have := h2.length
    refine .inl ⟨vs, SqL.of h1, ?_⟩
    cases xs <;> cases vs <;> first | rfl | (simp at this)
  | _ => cases e
theorem t_tru (ha : PE X a (tM X W ma)) (he : ∀ whole, isTrue a X.env whole = (do let v ← whole; standAt a.pos; holding [v] (truthy v))) : PT X a (tMB X W (tTru ma)) := by
  refine PT.weak (pt_truth ha he) fun σ H Q ⟨F, μ, s, h, R, q⟩ => ?_
  refine ⟨F, μ, s, h, R, (At.bind q).mono fun x H1 ⟨F1, μ1, h1, sx, e1, R1, rx, q1⟩ => ?_⟩
  cases e : truth sx h1 with
  | none => simp only [e] at q1; exact q1.elim
  | some b =>
    simp only [e] at q1
    refine ⟨b, ?_, q1 F1 μ1 H1 b .refl R1 rfl⟩
    unfold truth at e
    cases er : sx.rd h1 with
    | none => rw [er] at e; cases e
    | some p =>
      rw [er] at e
      refine RP.truth (R1.rd rx er) ?_
      cases p <;> first | exact e | cases e
theorem t_not {ta : ME Bool} (ha : PT X a (tMB X W ta)) : PT X (.UnaryOp .Not a pos) (tMB X W (tNotM ta)) := by
  refine PT.weak (pt_not ha) fun σ H Q ⟨F, μ, s, h, R, q⟩ => ?_
  refine ⟨F, μ, s, h, R, (At.bind q).mono fun x H1 ⟨F1, μ1, h1, sx, e1, R1, rx, q1⟩ => ?_⟩
  subst rx
  exact q1 F1 μ1 H1 _ .refl R1 rfl
theorem bl_of {α : Type} {K : PySem.W.Frag} {mg : Str → Option Value} {rel : Hp → List Addr → SV → α → Prop} {F H : Hp} {μ : List Addr} {σ : L2.St} {s : Sl} {h : MH} {x : SV} {k : Bool → ME SV} {Q : α → Hp → Prop}
    (q : At K mg W rel F μ σ H s ((match x with | .pv (.bl true) => k true | .pv (.bl false) => k false | _ => mStuck) s h) Q) : ∃ b, x = .pv (.bl b) ∧ At K mg W rel F μ σ H s (k b s h) Q := by
  match x, q with
  | .pv (.bl true), q => exact ⟨true, rfl, q⟩
  | .pv (.bl false), q => exact ⟨false, rfl, q⟩
  | .pv .non, q1 => exact q1.elim
  | .pv (.int _), q1 => exact q1.elim
  | .pv (.str _), q1 => exact q1.elim
  | .pv (.tup _), q1 => exact q1.elim
  | .pv (.lst _), q1 => exact q1.elim
  | .pv (.scr _), q1 => exact q1.elim
  | .ref _, q1 => exact q1.elim
  | .ty _, q1 => exact q1.elim
  | .cls _, q1 => exact q1.elim
  | .exc _ _, q1 => exact q1.elim
theorem s_not (ha : PE X a (tM X W ma)) : PE X (.UnaryOp .Not a pos) (tM X W (vNot ma)) := by
  refine PE.weak (pe_not ha) fun σ H Q ⟨F, μ, s, h, R, q⟩ => ?_
  refine ⟨F, μ, s, h, R, (At.bind q).mono fun x H1 ⟨F1, μ1, h1, sx, e1, R1, rx, q1⟩ => ?_⟩
  match sx, rx, q1 with
  | .pv (.bl i), rx, q1 =>
    cases rx
    exact ⟨i, rfl, q1 F1 μ1 H1 _ .refl R1 rfl⟩
  | .pv .non, _, q1 => exact q1.elim
  | .pv (.int _), _, q1 => exact q1.elim
  | .pv (.str _), _, q1 => exact q1.elim
  | .pv (.tup _), _, q1 => exact q1.elim
  | .pv (.lst _), _, q1 => exact q1.elim
  | .pv (.scr _), _, q1 => exact q1.elim
  | .ref _, _, q1 => exact q1.elim
  | .ty _, _, q1 => exact q1.elim
  | .cls _, _, q1 => exact q1.elim
  | .exc _ _, _, q1 => exact q1.elim
theorem t_ands {f : Expr → ME Bool} (hf : ∀ e, PT X e (tMB X W (f e))) : ∀ es : List Expr, PW X (.BoolOp .And es pos) (tMB X W (tAnds (es.map f)))
  | [] => ⟨fun _ _ _ _ _ _ _ ⟨_, _, _, _, _, z⟩ => z.elim⟩
  | [e] => pw_and1 (hf e)
  | e :: e2 :: es => by
    refine PW.weak (pw_and (hf e) (t_ands hf (e2 :: es))) fun σ H Q ⟨F, μ, s, h, R, q⟩ => ?_
    refine ⟨F, μ, s, h, R, (At.bind q).mono fun x H1 ⟨F1, μ1, h1, sx, e1, R1, rx, q1⟩ => ?_⟩
    subst rx
    cases sx with
    | true => rw [if_pos rfl] at q1 ⊢; exact ⟨F1, μ1, s, h1, R1, q1⟩
    | false => exact q1 F1 μ1 H1 _ .refl R1 rfl
theorem t_ors {f : Expr → ME Bool} (hf : ∀ e, PT X e (tMB X W (f e))) : ∀ es : List Expr, PW X (.BoolOp .Or es pos) (tMB X W (tOrs (es.map f)))
  | [] => ⟨fun _ _ _ _ _ _ _ ⟨_, _, _, _, _, z⟩ => z.elim⟩
  | [e] => pw_or1 (hf e)
  | e :: e2 :: es => by
    refine PW.weak (pw_or (hf e) (t_ors hf (e2 :: es))) fun σ H Q ⟨F, μ, s, h, R, q⟩ => ?_
    refine ⟨F, μ, s, h, R, (At.bind q).mono fun x H1 ⟨F1, μ1, h1, sx, e1, R1, rx, q1⟩ => ?_⟩
    subst rx
    cases sx with
    | false => rw [if_neg (by decide)] at q1 ⊢; exact ⟨F1, μ1, s, h1, R1, q1⟩
    | true => exact q1 F1 μ1 H1 _ .refl R1 rfl
theorem s_ands {f : Expr → ME SV} (hf : ∀ e, PE X e (tM X W (f e))) : ∀ es : List Expr, PE X (.BoolOp .And es pos) (tM X W (vAnds (es.map f)))
  | [] => stkE
  | [e] => pe_one (hf e)
  | e :: e2 :: es => by
    refine PE.weak (pe_and (hf e) (s_ands hf (e2 :: es))) fun σ H Q ⟨F, μ, s, h, R, q⟩ => ?_
    refine ⟨F, μ, s, h, R, (At.bind q).mono fun x H1 ⟨F1, μ1, h1, sx, e1, R1, rx, q1⟩ => ?_⟩
    obtain ⟨b, rfl, q2⟩ := bl_of (k := fun b => if b = true then vAnds (f e2 :: es.map f) else mPure (.pv (.bl false))) q1
    cases rx
    refine ⟨b, rfl, ?_⟩
    cases b with
    | true => exact ⟨F1, μ1, s, h1, R1, q2⟩
    | false => exact q2 F1 μ1 H1 _ .refl R1 rfl
theorem s_ors {f : Expr → ME SV} (hf : ∀ e, PE X e (tM X W (f e))) : ∀ es : List Expr, PE X (.BoolOp .Or es pos) (tM X W (vOrs (es.map f)))
  | [] => stkE
  | [e] => pe_one (hf e)
  | e :: e2 :: es => by
    refine PE.weak (pe_or (hf e) (s_ors hf (e2 :: es))) fun σ H Q ⟨F, μ, s, h, R, q⟩ => ?_
    refine ⟨F, μ, s, h, R, (At.bind q).mono fun x H1 ⟨F1, μ1, h1, sx, e1, R1, rx, q1⟩ => ?_⟩
    have q1' : At X.K X.mg W (RS X.K X.mg) F1 μ1 σ H1 s ((match sx with | .pv (.bl true) => mPure (SV.pv (.bl true)) | .pv (.bl false) => vOrs (f e2 :: es.map f) | _ => mStuck) s h1) Q := by
      match sx, q1 with
      | .pv (.bl true), q => exact q
      | .pv (.bl false), q => exact q
      | .pv .non, q1 => exact q1.elim
      | .pv (.int _), q1 => exact q1.elim
      | .pv (.str _), q1 => exact q1.elim
      | .pv (.tup _), q1 => exact q1.elim
      | .pv (.lst _), q1 => exact q1.elim
      | .pv (.scr _), q1 => exact q1.elim
      | .ref _, q1 => exact q1.elim
      | .ty _, q1 => exact q1.elim
      | .cls _, q1 => exact q1.elim
      | .exc _ _, q1 => exact q1.elim
    obtain ⟨b, rfl, q2⟩ := bl_of (k := fun b => if b = true then mPure (.pv (.bl true)) else vOrs (f e2 :: es.map f)) q1'
    cases rx
    refine ⟨b, rfl, ?_⟩
    cases b with
    | false => exact ⟨F1, μ1, s, h1, R1, q2⟩
    | true => exact q2 F1 μ1 H1 _ .refl R1 rfl
theorem s_if {t : Expr} {mt : ME Bool} (ht : PT X t (tMB X W mt)) (ha : PE X a (tM X W ma)) (hb : PE X b (tM X W mb)) : PE X (.IfExp t a b pos) (tM X W (mIf mt ma mb)) := by
  refine PE.weak (pe_ifExp ht ha hb) fun σ H Q ⟨F, μ, s, h, R, q⟩ => ?_
  refine ⟨F, μ, s, h, R, (At.bind q).mono fun x H1 ⟨F1, μ1, h1, sx, e1, R1, rx, q1⟩ => ?_⟩
  subst rx
  cases sx with
  | true => rw [if_pos rfl] at q1 ⊢; exact ⟨F1, μ1, s, h1, R1, q1⟩
  | false => rw [if_neg (by decide)] at q1 ⊢; exact ⟨F1, μ1, s, h1, R1, q1⟩
end
end Pv
/-! Pv6: arguments, displays, items, built-ins, calls. -/
namespace Pv
open PySem PySem.Spec PyProof.Rows L2
section
variable {X : Cx} {W : WX} {a b d e : Expr} {es : List Expr} {ma mb md : ME SV} {ms : ME (List SV)} {pos : Pos}
theorem starPlain (h : ¬ isStar e = true) {env : Env} : starEach (e :: es) env = (false, eval e env) :: starEach es env := by
  cases e <;> first | rfl | (exact absurd rfl h)
theorem starsPlain {env : Env} : ∀ {es : List Expr}, (es.all fun e => !isStar e) = true → (backTo pos (starEach es env)).any (·.1) = false
  | [], _ => rfl
  | e :: es, h => by
    simp only [List.all_cons, Bool.and_eq_true, Bool.not_eq_true'] at h
    rw [starPlain (by rw [h.1]; decide)]
    show (false || (backTo pos (starEach es env)).any (·.1)) = false
    rw [starsPlain h.2]
    rfl
theorem s_args {r : EvT} {c : SC} (hr : ∀ e, PE X e (tM X W (r.e c e))) : ∀ es : List Expr, PA X es (tMs X W (argsE r c es))
  | [] => PA.weak pa_nil fun σ H Q ⟨F, μ, s, h, R, q⟩ => q F μ H [] .refl R rfl
  | e :: es => by
    unfold argsE
    by_cases hs : isStar e = true
    · rw [if_pos hs]
      exact ⟨fun _ _ _ _ _ _ _ ⟨_, _, _, _, _, z⟩ => z.elim⟩
    · rw [if_neg hs]
      refine PA.weak (pa_cons (hr e) (s_args hr es) (starPlain hs)) fun σ H Q ⟨F, μ, s, h, R, q⟩ => ?_
      refine ⟨F, μ, s, h, R, (At.bind q).mono fun x H1 ⟨F1, μ1, h1, sx, e1, R1, rx, q1⟩ => ⟨F1, μ1, s, h1, R1, (At.bind q1).mono fun y H2 ⟨F2, μ2, h2, sy, e2, R2, ry, q2⟩ => ?_⟩⟩
      exact q2 F2 μ2 H2 _ .refl R2 ⟨x, y, rfl, rx.mono e2, ry⟩
theorem s_tup {j : Nat} (h : PA X es (tMs X W ms)) : PE X (.Tuple es j pos) (tM X W (mTup ms)) := by
  refine PE.weak (pe_tup h) fun σ H Q ⟨F, μ, s, h, R, q⟩ => ?_
  refine ⟨F, μ, s, h, R, (At.bind q).mono fun x H1 ⟨F1, μ1, h1, sx, e1, R1, rx, q1⟩ => ?_⟩
  cases e : frzAll h1 sx with
  | none => simp only [e] at q1; exact q1.elim
  | some r =>
    obtain ⟨ps, h2⟩ := r
    simp only [e] at q1
    by_cases hl : ps.length ≤ sizeLine
    · rw [if_pos hl] at q1
      obtain ⟨F2, x2, R2, r⟩ := R1.frzs rx e
      refine ⟨by rw [← r.length]; exact hl, fun p n => ?_⟩
      have g := Gro.new1 (o := .tup x) R2.le n
      exact q1 _ μ1 _ _ (x2.trans (Rp.ex g)) (R2.gro g) ⟨p, x, rfl, SqT.of upd_same, RPs.mono g.le _ _ r⟩
    · rw [if_neg hl] at q1
      exact q1.elim
/-- a new list stands at p -/
theorem newL_at {mt : Bool} {ps : List PV} {vs : List V} {F H : Hp} {μ : List Addr} {σ : L2.St} {s : Sl} {h : MH} {Q : VK} (R : Rp X.K X.mg F μ σ H s h) (r : RPs X.K F ps vs) {p : Addr} (n : H p = none)
    (q : At X.K X.mg W (RS X.K X.mg) F μ σ H s (newL mt ps s h) Q) : Q (.ref p) (upd H p (.lst vs)) := by
  unfold newL at q
  cases mt with
  | true =>
    rw [if_pos rfl] at q
    exact q F (μ ++ [p]) _ _ (.alloc n) (R.alloc n r) ⟨p, by rw [← R.len, List.getElem?_append_right (Nat.le_refl _)]; simp, rfl⟩
  | false =>
    rw [if_neg (by decide)] at q
    have g := Gro.new1 (o := .lst vs) R.le n
    exact q _ μ _ _ (Rp.ex g) (R.gro g) ⟨p, vs, rfl, upd_same, RPs.mono g.le _ _ r⟩
theorem s_lst {mt : Bool} (h : PA X es (tMs X W ms)) : PE X (.List es pos) (tM X W (mLst mt ms)) := by
  refine PE.weak (pe_lst h) fun σ H Q ⟨F, μ, s, h, R, q⟩ => ?_
  refine ⟨F, μ, s, h, R, (At.bind q).mono fun x H1 ⟨F1, μ1, h1, sx, e1, R1, rx, q1⟩ => ?_⟩
  cases e : frzAll h1 sx with
  | none => simp only [e] at q1; exact q1.elim
  | some r =>
    obtain ⟨ps, h2⟩ := r
    simp only [e] at q1
    by_cases hl : ps.length ≤ sizeLine
    · rw [if_pos hl] at q1
      obtain ⟨F2, x2, R2, r⟩ := R1.frzs rx e
      exact ⟨by rw [← r.length]; exact hl, fun p n => newL_at R2 r n (q1.ex x2)⟩
    · rw [if_neg hl] at q1
      exact q1.elim
theorem s_bin {mt : Bool} {op : Operator} (ha : PE X a (tM X W ma)) (hb : PE X b (tM X W mb)) : PE X (.BinOp a op b pos) (tM X W (mBin mt op ma mb)) := by
  refine PE.weak (pe_op (opBin op) ha hb) fun σ H Q ⟨F, μ, s, h, R, q⟩ => ?_
  refine ⟨F, μ, s, h, R, (At.bind q).mono fun x H1 ⟨F1, μ1, h1, sx, e1, R1, rx, q1⟩ => ⟨F1, μ1, s, h1, R1, (At.bind q1).mono fun y H2 ⟨F2, μ2, h2, sy, e2, R2, ry, q2⟩ => ?_⟩⟩
  cases sx with
  | pv p1 => cases sy with
    | pv p2 =>
      cases e : binV op p1 p2 with
      | none => simp only [e] at q2; exact q2.elim
      | some r =>
        refine ⟨F2, p1, p2, r, R2.le, RP.mono e2.le _ _ rx, ry, e, ?_⟩
        have fin : At X.K X.mg W (RS X.K X.mg) F2 μ2 σ H2 s (mPure (SV.pv r) s h2) Q → ∀ F' H' v, Gro F2 H2 F' H' → RP X.K F' r v → Q v H' := fun q F' H' v g rv => q F' μ2 H' v (Rp.ex g) (R2.gro g) rv
        cases r with
        | lst vs => simp only [e] at q2; exact fun p vs n rv => newL_at R2 rv n q2
        | non => simp only [e] at q2; exact fin q2
        | bl _ => simp only [e] at q2; exact fin q2
        | int _ => simp only [e] at q2; exact fin q2
        | str _ => simp only [e] at q2; exact fin q2
        | tup _ => simp only [e] at q2; exact fin q2
        | scr _ => simp only [e] at q2; exact fin q2
    | _ => exact q2.elim
  | _ => exact q2.elim
/-- the items of what a name holds -/
theorem Rp.view {K : PySem.W.Frag} {mg : Str → Option Value} {F H : Hp} {μ : List Addr} {σ : L2.St} {s : Sl} {h : MH} (R : Rp K mg F μ σ H s h) {x : SV} {v : V} {p : PV} {xs : List PV} (r : RS K mg F μ x v) (e : x.rd h = some p) (ei : items? p = some xs) :
    ∃ a vs, v = .ref a ∧ RPs K F xs vs ∧ ((SqL K H a vs ∧ ∀ ys, p ≠ .tup ys) ∨ (SqT K F a vs ∧ p = .tup xs)) := by
  cases x with
  | pv q =>
    cases e
    cases p with
    | tup ys =>
      cases ei
      obtain ⟨a, vs, rfl, h1, h2⟩ := r
      exact ⟨a, vs, rfl, h2, .inr ⟨h1, rfl⟩⟩
    | lst ys =>
      cases ei
      obtain ⟨a, vs, rfl, h1, h2⟩ := r
      exact ⟨a, vs, rfl, h2, .inl ⟨SqL.of (R.le _ _ h1), fun _ z => nomatch z⟩⟩
    | scr ns =>
      cases ei
      obtain ⟨a, rfl, h1⟩ := r
      exact ⟨a, _, rfl, .of_ints, .inl ⟨SqL.mono R.le h1, fun _ z => nomatch z⟩⟩
    | _ => cases ei
  | ref l =>
    obtain ⟨a, h1, rfl⟩ := r
    obtain ⟨ys, h2, rfl⟩ := SV.rd_ref e
    cases ei
    obtain ⟨_, vs, h3, h4⟩ := R.mt l a _ h1 h2
    exact ⟨a, vs, rfl, h4, .inl ⟨SqL.of h3, fun _ z => nomatch z⟩⟩
  | _ => cases e
theorem RPs.atI {K : PySem.W.Frag} {F : Hp} {ps : List PV} {vs : List V} {i : Int} {p : PV} (r : RPs K F ps vs) (e : L2.atI ps i = some p) : ∃ v, L2.atI vs i = some v ∧ RP K F p v := by
  unfold L2.atI at e ⊢
  rw [← r.length]
  cases hj : ixN ps.length i with
  | none => rw [hj] at e; cases e
  | some j =>
    rw [hj] at e
    exact r.get e
theorem plainIx_of {i : Expr} (h : plainIx i = true) : PlainIx i := fun o v => by
  cases i <;> first | rfl | cases h
theorem s_idx (hi : plainIx b = true) (ha : PE X a (tM X W ma)) (hb : PE X b (tM X W mb)) : PE X (.Subscript a b pos) (tM X W (mIdx ma mb)) := by
  refine PE.weak (pe_ix ix_seq ha hb (plainIx_of hi)) fun σ H Q ⟨F, μ, s, h, R, q⟩ => ?_
  refine ⟨F, μ, s, h, R, (At.bind q).mono fun x H1 ⟨F1, μ1, h1, sx, e1, R1, rx, q1⟩ => ⟨F1, μ1, s, h1, R1, (At.bind q1).mono fun y H2 ⟨F2, μ2, h2, sy, e2, R2, ry, q2⟩ => ?_⟩⟩
  split at q2
  · rename_i p i er
    split at q2
    · rename_i r ei
      have fin : ∀ {v : V}, RP X.K F2 r v → Q v H2 := fun {v} rv => q2 F2 μ2 H2 v .refl R2 rv
      unfold idxV at ei
      split at ei
      · rename_i z k
        split at ei
        · rename_i hz
          obtain ⟨c, ec, rfl⟩ := Option.map_eq_some_iff.mp ei
          have r1 := R2.rd (rx.mono e2) er
          cases r1
          cases ry
          exact .inr (.inr ⟨z, k, c, rfl, rfl, hz, ec, fin rfl⟩)
        · cases ei
      · rename_i k _
        cases ry
        cases hit : items? p with
        | none => rw [hit] at ei; cases ei
        | some xs =>
          rw [hit] at ei
          obtain ⟨a1, vs, rfl, r1, hs⟩ := R2.view (rx.mono e2) er hit
          obtain ⟨v, ev, rv⟩ := r1.atI ei
          rcases hs with ⟨hs, _⟩ | ⟨hs, _⟩
          · exact .inl ⟨a1, vs, k, v, rfl, rfl, hs, ev, fin rv⟩
          · exact .inr (.inl ⟨a1, vs, k, v, rfl, rfl, SqT.mono R2.le hs, ev, fin rv⟩)
      · cases ei
    · exact q2.elim
  · exact q2.elim
/-- a part of a slice -/
theorem po_of {o : Option Expr} {f : Expr → ME SV} (hf : ∀ e, PE X e (tM X W (f e))) : PO X o (fun σ H Q => WM X W (fun _ _ a b => a = b) (mPart (o.map f)) σ H Q) := by
  cases o with
  | none =>
    refine ⟨fun pins s σ H Q I ⟨F, μ, s', h, R, q⟩ => po_none.run pins s σ H Q I (q F μ H none .refl R rfl)⟩
  | some e =>
    refine ⟨fun pins s σ H Q I ⟨F, μ, s', h, R, q⟩ => (po_some (hf e)).run pins s σ H Q I ?_⟩
    refine ⟨F, μ, s', h, R, (At.bind q).mono fun x H1 ⟨F1, μ1, h1, sx, e1, R1, rx, q1⟩ => ?_⟩
    match sx, rx, q1 with
    | .pv (.int i), rx, q1 =>
      cases rx
      exact ⟨i, rfl, q1 F1 μ1 H1 _ .refl R1 rfl⟩
    | .pv .non, _, q1 => exact q1.elim
    | .pv (.bl _), _, q1 => exact q1.elim
    | .pv (.str _), _, q1 => exact q1.elim
    | .pv (.tup _), _, q1 => exact q1.elim
    | .pv (.lst _), _, q1 => exact q1.elim
    | .pv (.scr _), _, q1 => exact q1.elim
    | .ref _, _, q1 => exact q1.elim
    | .ty _, _, q1 => exact q1.elim
    | .cls _, _, q1 => exact q1.elim
    | .exc _ _, _, q1 => exact q1.elim
theorem cutP_whole {ps : List PV} {lo hi : Option Int} (h : HT.sIx ps.length 0 lo = 0 ∧ HT.sIx ps.length ps.length hi = ps.length) : cutP ps lo hi = ps := by
  unfold cutP
  rw [h.1, h.2]
  simp
theorem s_slice {lo hi : Option Expr} {p2 : Pos} {mt : Bool} {f : Expr → ME SV} (hf : ∀ e, PE X e (tM X W (f e))) (ha : PE X a (tM X W ma)) :
    PE X (.Subscript a (.Slice lo hi none p2) pos) (tM X W (mSlice mt ma (lo.map f) (hi.map f))) := by
  refine PE.weak (pe_slice (SlR.or sl_list sl_tupA) ha (po_of hf) (po_of hf)) fun σ H Q ⟨F, μ, s, h, R, q⟩ => ?_
  refine ⟨F, μ, s, h, R, (At.bind q).mono fun x H1 ⟨F1, μ1, h1, sx, e1, R1, rx, q1⟩ => ⟨F1, μ1, s, h1, R1, (At.bind q1).mono fun y H2 ⟨F2, μ2, h2, l, e2, R2, ry, q2⟩ => ⟨F2, μ2, s, h2, R2, (At.bind q2).mono fun z H3 ⟨F3, μ3, h3, u, e3, R3, rz, q3⟩ => ?_⟩⟩⟩
  subst ry rz
  have rx3 := rx.mono (e2.trans e3)
  split at q3
  · rename_i p er
    have lists : ∀ {xs : List PV}, items? p = some xs → (∀ ys, p ≠ .tup ys) → At X.K X.mg W (RS X.K X.mg) F3 μ3 σ H3 s (newL mt (cutP xs l u) s h3) Q → rSlL X.K x l u H3 Q := fun {xs} hit hn q => by
      obtain ⟨a1, vs, rfl, r1, hs⟩ := R3.view rx3 er hit
      rcases hs with ⟨hs, _⟩ | ⟨_, hs⟩
      · exact ⟨a1, vs, rfl, hs, fun p n => newL_at R3 (r1.cut l u) n q⟩
      · exact absurd hs (hn _)
    cases p with
    | tup xs =>
      obtain ⟨a1, vs, rfl, r1, hs⟩ := R3.view rx3 er rfl
      rcases hs with ⟨_, hn⟩ | ⟨hs, _⟩
      · exact absurd rfl (hn _)
      · refine .inr ⟨a1, vs, rfl, SqT.mono R3.le hs, fun hw => ?_, fun _ p n => ?_⟩
        · refine q3 F3 μ3 H3 _ .refl R3 ⟨a1, vs, rfl, hs, ?_⟩
          rw [cutP_whole (by rw [r1.length]; exact hw)]
          exact r1
        · have g := Gro.new1 (o := .tup (cutV vs l u)) R3.le n
          exact q3 _ μ3 _ _ (Rp.ex g) (R3.gro g) ⟨p, _, rfl, SqT.of upd_same, RPs.mono g.le _ _ (r1.cut l u)⟩
    | lst xs => exact .inl (lists rfl (fun _ z => nomatch z) q3)
    | scr ns => exact .inl (lists rfl (fun _ z => nomatch z) q3)
    | _ => exact q3.elim
  · exact q3.elim

/-! ### built-ins -/
theorem rds_of {K : PySem.W.Frag} {mg : Str → Option Value} {F H : Hp} {μ : List Addr} {σ : L2.St} {s : Sl} {h : MH} (R : Rp K mg F μ σ H s h) : ∀ {xs : List SV} {ps : List PV} {vs : List V}, rds? h xs = some ps → RSs K mg F μ xs vs → RPs K H ps vs
  | [], ps, vs, e, r => by
    cases e
    cases r
    rfl
  | x :: xs, ps, vs, e, r => by
    obtain ⟨v, rr, rfl, r1, r2⟩ := r
    unfold rds? at e
    split at e
    · rename_i p qs e1 e2
      cases e
      exact ⟨v, rr, rfl, R.rd r1 e1, rds_of R e2 r2⟩
    · cases e
theorem foldl_max : ∀ (r : List Int) (i : Int), (r.foldl (fun a b => if a < b then b else a) i ∈ i :: r) ∧ ∀ y, y ∈ i :: r → y ≤ r.foldl (fun a b => if a < b then b else a) i
  | [], i => by simp
  | j :: r, i => by
    obtain ⟨h1, h2⟩ := foldl_max r (if i < j then j else i)
    simp only [List.foldl_cons]
    refine ⟨?_, fun y hy => ?_⟩
    · rcases List.mem_cons.mp h1 with e | h1
      · rw [e]
        split <;> simp
      · exact List.mem_cons_of_mem _ (List.mem_cons_of_mem _ h1)
    · have hb := h2 (if i < j then j else i) List.mem_cons_self
      have hz : i ≤ (if i < j then j else i) ∧ j ≤ (if i < j then j else i) := by constructor <;> split <;> omega
      rcases List.mem_cons.mp hy with rfl | hy
      · omega
      · rcases List.mem_cons.mp hy with rfl | hy
        · omega
        · exact h2 y (List.mem_cons_of_mem _ hy)
theorem foldl_min : ∀ (r : List Int) (i : Int), (r.foldl (fun a b => if b < a then b else a) i ∈ i :: r) ∧ ∀ y, y ∈ i :: r → r.foldl (fun a b => if b < a then b else a) i ≤ y
  | [], i => by simp
  | j :: r, i => by
    obtain ⟨h1, h2⟩ := foldl_min r (if j < i then j else i)
    simp only [List.foldl_cons]
    refine ⟨?_, fun y hy => ?_⟩
    · rcases List.mem_cons.mp h1 with e | h1
      · rw [e]
        split <;> simp
      · exact List.mem_cons_of_mem _ (List.mem_cons_of_mem _ h1)
    · have hb := h2 (if j < i then j else i) List.mem_cons_self
      have hz : (if j < i then j else i) ≤ i ∧ (if j < i then j else i) ≤ j := by constructor <;> split <;> omega
      rcases List.mem_cons.mp hy with rfl | hy
      · omega
      · rcases List.mem_cons.mp hy with rfl | hy
        · omega
        · exact h2 y (List.mem_cons_of_mem _ hy)
end
end Pv
/-! Pv7: calls of built-ins and of defs, append. -/
namespace Pv
open PySem PySem.Spec PyProof.Rows L2
section
variable {X : Cx} {W : WX} {a b d e : Expr} {es : List Expr} {ma mb md : ME SV} {ms : ME (List SV)} {pos p : Pos} {f : Str}
variable {T : Tab} {call : Str → List SV → MH → RE SV} {k : Nat} {c : SC}
def FinV (r : PV) (H : Hp) (Q : VK) : Prop := (flatP r = true ∧ Q (toV r) H) ∨ (∃ ns : List Int, r = .tup (ns.map .int) ∧ ∀ p, H p = none → Q (.ref p) (upd H p (.tup (ns.map V.int))))
def rBi (K : PySem.W.Frag) (b : Bi) : List V → Hp → VK → Prop := fun xs H Q => ∃ ps r, RPs K H ps xs ∧ biV b ps = some r ∧ FinV r H Q
theorem RPs.one {K : PySem.W.Frag} {F : Hp} {q : PV} {vs : List V} (r : RPs K F [q] vs) : ∃ v, vs = [v] ∧ RP K F q v := by
  obtain ⟨v, rr, rfl, r1, r2⟩ := r
  cases r2
  exact ⟨v, rfl, r1⟩
theorem RPs.two {K : PySem.W.Frag} {F : Hp} {q q' : PV} {vs : List V} (r : RPs K F [q, q'] vs) : ∃ v w, vs = [v, w] ∧ RP K F q v ∧ RP K F q' w := by
  obtain ⟨v, rr, rfl, r1, r2⟩ := r
  obtain ⟨w, rfl, r3⟩ := r2.one
  exact ⟨v, w, rfl, r1, r3⟩
theorem RP.seq {K : PySem.W.Frag} {H : Hp} {p : PV} {xs : List PV} {v : V} (r : RP K H p v) (e : items? p = some xs) : ∃ a vs, v = .ref a ∧ RPs K H xs vs ∧ (SqL K H a vs ∨ SqT K H a vs) := by
  cases p with
  | tup ys =>
    cases e
    obtain ⟨a, vs, rfl, h1, h2⟩ := r
    exact ⟨a, vs, rfl, h2, .inr h1⟩
  | lst ys =>
    cases e
    obtain ⟨a, vs, rfl, h1, h2⟩ := r
    exact ⟨a, vs, rfl, h2, .inl (SqL.of h1)⟩
  | scr ns =>
    cases e
    obtain ⟨a, rfl, h1⟩ := r
    exact ⟨a, _, rfl, .of_ints, .inl h1⟩
  | _ => cases e
theorem FinV.int {i : Int} {H : Hp} {Q : VK} (f : FinV (.int i) H Q) : Q (.int i) H := by
  rcases f with ⟨_, q⟩ | ⟨ns, e, _⟩
  · exact q
  · cases e
theorem bLen : CallR X (.builtin "len") (rBi X.K .len) := by
  intro pins s σ H xs us Q I r h
  obtain ⟨ps, r0, rp, e, f⟩ := h
  unfold biV at e
  split at e
  · split at e
    · cases e
      obtain ⟨v, rfl, rv⟩ := rp.one
      cases rv
      exact call_len_str pins s σ H _ us Q I r ⟨_, rfl, by assumption, f.int⟩
    · cases e
  · obtain ⟨ys, e1, rfl⟩ := Option.map_eq_some_iff.mp e
    obtain ⟨v, rfl, rv⟩ := rp.one
    obtain ⟨a, vs, rfl, r1, hs⟩ := rv.seq e1
    refine call_len_seq pins s σ H _ us Q I r ⟨a, vs, rfl, hs, ?_⟩
    rw [← r1.length]
    exact f.int
  all_goals first | contradiction | cases e
theorem bAbs : CallR X (.builtin "abs") (rBi X.K .abs) := by
  intro pins s σ H xs us Q I r h
  obtain ⟨ps, r0, rp, e, f⟩ := h
  unfold biV at e
  split at e <;> first | contradiction | skip
  cases e
  obtain ⟨v, rfl, rv⟩ := rp.one
  cases rv
  exact call_abs pins s σ H _ us Q I r ⟨_, rfl, f.int⟩
theorem bInt : CallR X (.type "int") (rBi X.K .int) := by
  intro pins s σ H xs us Q I r h
  obtain ⟨ps, r0, rp, e, f⟩ := h
  unfold biV at e
  split at e <;> first | contradiction | skip
  · cases e
    obtain ⟨v, rfl, rv⟩ := rp.one
    cases rv
    exact call_int1 pins s σ H _ us Q I r (.inl ⟨_, rfl, f.int⟩)
  · cases e
    obtain ⟨v, rfl, rv⟩ := rp.one
    cases rv
    exact call_int1 pins s σ H _ us Q I r (.inr ⟨_, rfl, f.int⟩)
theorem bMax (hc : X.calm = true) : CallR X (.builtin "max") (rBi X.K .max) := by
  intro pins s σ H xs us Q I r h
  obtain ⟨ps, r0, rp, e, f⟩ := h
  unfold biV at e
  split at e <;> first | contradiction | skip
  · cases e
    obtain ⟨v, w, rfl, rv, rw⟩ := rp.two
    cases rv; cases rw
    exact call_max2 hc pins s σ H _ us Q I r ⟨_, _, rfl, f.int⟩
  · obtain ⟨ns, e1, e2⟩ := Option.bind_eq_some_iff.mp e
    obtain ⟨m, e3, rfl⟩ := Option.map_eq_some_iff.mp e2
    obtain ⟨v, rfl, rv⟩ := rp.one
    obtain ⟨a, vs, rfl, h1, h2⟩ := rv
    have hv := h2.ints e1
    subst hv
    cases ns with
    | nil => cases e3
    | cons n ns =>
      cases e3
      refine cr_max hc pins s σ H _ us Q I r ⟨a, n :: ns, rfl, SqL.of h1, by simp, fun m hm hy => ?_⟩
      obtain ⟨k1, k2⟩ := foldl_max ns n
      have : m = ns.foldl (fun a b => if a < b then b else a) n := Int.le_antisymm (k2 m hm) (hy _ k1)
      rw [this]
      exact f.int
theorem bMin (hc : X.calm = true) : CallR X (.builtin "min") (rBi X.K .min) := by
  intro pins s σ H xs us Q I r h
  obtain ⟨ps, r0, rp, e, f⟩ := h
  unfold biV at e
  split at e <;> first | contradiction | skip
  · cases e
    obtain ⟨v, w, rfl, rv, rw⟩ := rp.two
    cases rv; cases rw
    exact call_min2 hc pins s σ H _ us Q I r ⟨_, _, rfl, f.int⟩
  · obtain ⟨ns, e1, e2⟩ := Option.bind_eq_some_iff.mp e
    obtain ⟨m, e3, rfl⟩ := Option.map_eq_some_iff.mp e2
    obtain ⟨v, rfl, rv⟩ := rp.one
    obtain ⟨a, vs, rfl, h1, h2⟩ := rv
    have hv := h2.ints e1
    subst hv
    cases ns with
    | nil => cases e3
    | cons n ns =>
      cases e3
      refine cr_min hc pins s σ H _ us Q I r ⟨a, n :: ns, rfl, SqL.of h1, by simp, fun m hm hy => ?_⟩
      obtain ⟨k1, k2⟩ := foldl_min ns n
      have : m = ns.foldl (fun a b => if b < a then b else a) n := Int.le_antisymm (hy _ k1) (k2 m hm)
      rw [this]
      exact f.int
theorem bSum (hc : X.calm = true) : CallR X (.builtin "sum") (rBi X.K .sum) := by
  intro pins s σ H xs us Q I r h
  obtain ⟨ps, r0, rp, e, f⟩ := h
  unfold biV at e
  split at e <;> first | contradiction | skip
  obtain ⟨ns, e1, rfl⟩ := Option.map_eq_some_iff.mp e
  obtain ⟨v, rfl, rv⟩ := rp.one
  obtain ⟨a, vs, rfl, h1, h2⟩ := rv
  have hv := h2.ints e1
  subst hv
  exact cr_sum hc pins s σ H _ us Q I r ⟨a, ns, rfl, SqL.of h1, f.int⟩
theorem bDivmod : CallR X (.builtin "divmod") (rBi X.K .divmod) := by
  intro pins s σ H xs us Q I r h
  obtain ⟨ps, r0, rp, e, f⟩ := h
  unfold biV at e
  split at e <;> first | contradiction | skip
  split at e
  · rename_i i j _ hc
    cases e
    obtain ⟨v, w, rfl, rv, rw⟩ := rp.two
    cases rv; cases rw
    refine call_divmod pins s σ H _ us Q I r ⟨_, _, rfl, hc, fun p n => ?_⟩
    rcases f with ⟨z, _⟩ | ⟨ns, e, q⟩
    · cases z
    · have : ns = [i / j, i % j] := by
        injection e with e
        match ns, e with
        | [x, y], e => injection e with e1 e2; injection e1 with e1; injection e2 with e2 _; injection e2 with e2; rw [e1, e2]
      subst this
      exact q p n
  · cases e
theorem s_bi_read {b : Bi} {σ : L2.St} {H : Hp} {Q : VK} (q : tM X W (mBi b ms) σ H Q) : tMs X W ms σ H (fun xs H1 => rBi X.K b xs H1 Q) := by
  obtain ⟨F, μ, s, h, R, q⟩ := q
  refine ⟨F, μ, s, h, R, (At.bind q).mono fun x H1 ⟨F1, μ1, h1, sx, e1, R1, rx, q1⟩ => ?_⟩
  cases e : rds? h1 sx with
  | none => simp only [e] at q1; exact q1.elim
  | some ps =>
    simp only [e] at q1
    cases e2 : biV b ps with
    | none => simp only [e2] at q1; exact q1.elim
    | some r =>
      simp only [e2] at q1
      refine ⟨ps, r, rds_of R1 e rx, e2, ?_⟩
      by_cases hf : flatP r = true
      · refine .inl ⟨hf, q1 F1 μ1 H1 _ .refl R1 ?_⟩
        cases r <;> first | rfl | (cases hf; done)
      · refine .inr ?_
        have : ∃ ns : List Int, r = .tup (ns.map .int) := by
          unfold biV at e2
          split at e2
          · split at e2
            · cases e2; exact absurd rfl hf
            · cases e2
          · obtain ⟨_, _, rfl⟩ := Option.map_eq_some_iff.mp e2; exact absurd rfl hf
          · cases e2; exact absurd rfl hf
          · cases e2; exact absurd rfl hf
          · cases e2; exact absurd rfl hf
          · cases e2; exact absurd rfl hf
          · cases e2; exact absurd rfl hf
          · obtain ⟨_, _, e3⟩ := Option.bind_eq_some_iff.mp e2
            obtain ⟨_, _, rfl⟩ := Option.map_eq_some_iff.mp e3; exact absurd rfl hf
          · obtain ⟨_, _, e3⟩ := Option.bind_eq_some_iff.mp e2
            obtain ⟨_, _, rfl⟩ := Option.map_eq_some_iff.mp e3; exact absurd rfl hf
          · obtain ⟨_, _, rfl⟩ := Option.map_eq_some_iff.mp e2; exact absurd rfl hf
          · split at e2
            · cases e2; exact ⟨[_, _], rfl⟩
            · cases e2
          · cases e2
        obtain ⟨ns, rfl⟩ := this
        refine ⟨ns, rfl, fun p n => ?_⟩
        have g := Gro.new1 (o := .tup (ns.map V.int)) R1.le n
        exact q1 _ μ1 _ _ (Rp.ex g) (R1.gro g) ⟨p, _, rfl, SqT.of upd_same, .of_ints⟩
theorem biOf_cases {x : Str} {b : Bi} (h : biOf x = some b) : (x = ("len" : Str) ∧ b = .len) ∨ (x = ("abs" : Str) ∧ b = .abs) ∨ (x = ("int" : Str) ∧ b = .int) ∨ (x = ("max" : Str) ∧ b = .max) ∨ (x = ("min" : Str) ∧ b = .min) ∨ (x = ("sum" : Str) ∧ b = .sum) ∨ (x = ("divmod" : Str) ∧ b = .divmod) := by
  have hm := mem_of_lookup h
  simpa only [List.mem_cons, List.not_mem_nil, or_false, Prod.mk.injEq] using hm
theorem s_bi (C : Cn T call k c X) {b : Bi} (hb : biOf f = some b) (hg : Gl X f) (ho : okName f = true) (hst : ¬ isStar e = true) (hpl : (es.all fun e => !isStar e) = true) (h : PA X (e :: es) (tMs X W ms)) :
    PE X (.Call (.Name f p) (e :: es) [] pos) (tM X W (mBi b ms)) := by
  have hm : f ∈ blts → X.mg f = none := C.blt f
  rcases biOf_cases hb with ⟨rfl, rfl⟩ | ⟨rfl, rfl⟩ | ⟨rfl, rfl⟩ | ⟨rfl, rfl⟩ | ⟨rfl, rfl⟩ | ⟨rfl, rfl⟩ | ⟨rfl, rfl⟩
  · exact PE.weak (pe_callB bLen hg (hm (by decide)) boot_len h (by decide) (okName_dbg ho) (starPlain hst) (starsPlain hpl)) fun σ H Q q => s_bi_read q
  · exact PE.weak (pe_callB bAbs hg (hm (by decide)) boot_abs h (by decide) (okName_dbg ho) (starPlain hst) (starsPlain hpl)) fun σ H Q q => s_bi_read q
  · exact PE.weak (pe_callTy bInt hg (hm (by decide)) boot_int h (by decide) (okName_dbg ho) (starPlain hst) (starsPlain hpl)) fun σ H Q q => s_bi_read q
  · exact PE.weak (pe_callB (bMax C.calm) hg (hm (by decide)) boot_max h (by decide) (okName_dbg ho) (starPlain hst) (starsPlain hpl)) fun σ H Q q => s_bi_read q
  · exact PE.weak (pe_callB (bMin C.calm) hg (hm (by decide)) boot_min h (by decide) (okName_dbg ho) (starPlain hst) (starsPlain hpl)) fun σ H Q q => s_bi_read q
  · exact PE.weak (pe_callB (bSum C.calm) hg (hm (by decide)) boot_sum h (by decide) (okName_dbg ho) (starPlain hst) (starsPlain hpl)) fun σ H Q q => s_bi_read q
  · exact PE.weak (pe_callB bDivmod hg (hm (by decide)) boot_divmod h (by decide) (okName_dbg ho) (starPlain hst) (starsPlain hpl)) fun σ H Q q => s_bi_read q
/-- one argument whose items are read -/
theorem rds_one {h : MH} {sx : List SV} {v : PV} (e : rds? h sx = some [v]) : ∃ x, sx = [x] ∧ x.rd h = some v := by
  match sx, e with
  | [], e => cases e
  | [x], e =>
    unfold rds? at e
    split at e
    · rename_i v' vs' e1 e2
      cases e2
      cases e
      exact ⟨x, rfl, e1⟩
    · cases e
  | x :: y :: r, e =>
    unfold rds? at e
    split at e
    · rename_i v' vs' e1 e2
      cases e
      unfold rds? at e2
      split at e2 <;> cases e2
    · cases e
theorem s_list (C : Cn T call k c X) {mt : Bool} (hg : Gl X ("list" : Str)) (hst : ¬ isStar e = true) (hpl : (es.all fun e => !isStar e) = true) (h : PA X (e :: es) (tMs X W ms)) :
    PE X (.Call (.Name "list" p) (e :: es) [] pos) (tM X W (mList mt ms)) := by
  refine PE.weak (pe_callTy call_list_of hg (C.blt _ (by decide)) boot_list h (by decide) (by decide) (starPlain hst) (starsPlain hpl)) fun σ H Q ⟨F, μ, s, h, R, q⟩ => ?_
  refine ⟨F, μ, s, h, R, (At.bind q).mono fun x H1 ⟨F1, μ1, h1, sx, e1, R1, rx, q1⟩ => ?_⟩
  split at q1
  · rename_i v er
    split at q1
    · rename_i vs ei
      obtain ⟨y, rfl, ey⟩ := rds_one er
      obtain ⟨w, rr, rfl, r1, r2⟩ := rx
      cases r2
      obtain ⟨a, ws, rfl, r3, hs⟩ := R1.view r1 ey ei
      refine ⟨a, ws, rfl, ?_, fun l n => newL_at R1 r3 n q1⟩
      rcases hs with ⟨hs, _⟩ | ⟨hs, _⟩
      · exact .inl hs
      · exact .inr (SqT.mono R1.le hs)
    · exact q1.elim
  · exact q1.elim
theorem s_tuple (C : Cn T call k c X) (hg : Gl X ("tuple" : Str)) (hst : ¬ isStar e = true) (hpl : (es.all fun e => !isStar e) = true) (h : PA X (e :: es) (tMs X W ms)) :
    PE X (.Call (.Name "tuple" p) (e :: es) [] pos) (tM X W (mTuple ms)) := by
  refine PE.weak (pe_callTy call_tuple_of hg (C.blt _ (by decide)) boot_tuple h (by decide) (by decide) (starPlain hst) (starsPlain hpl)) fun σ H Q ⟨F, μ, s, h, R, q⟩ => ?_
  refine ⟨F, μ, s, h, R, (At.bind q).mono fun x H1 ⟨F1, μ1, h1, sx, e1, R1, rx, q1⟩ => ?_⟩
  split at q1
  · rename_i v er
    split at q1
    · rename_i vs ei
      obtain ⟨y, rfl, ey⟩ := rds_one er
      obtain ⟨w, rr, rfl, r1, r2⟩ := rx
      cases r2
      obtain ⟨a, ws, rfl, r3, hs⟩ := R1.view r1 ey ei
      refine ⟨a, ws, rfl, ?_⟩
      rcases hs with ⟨hs, _⟩ | ⟨hs, _⟩
      · refine .inl ⟨hs, fun l n => ?_⟩
        have g := Gro.new1 (o := .tup ws) R1.le n
        exact q1 _ μ1 _ _ (Rp.ex g) (R1.gro g) ⟨l, ws, rfl, SqT.of upd_same, RPs.mono g.le _ _ r3⟩
      · exact .inr ⟨SqT.mono R1.le hs, q1 F1 μ1 H1 _ .refl R1 ⟨a, ws, rfl, hs, r3⟩⟩
    · exact q1.elim
  · exact q1.elim
theorem isI_kit {K : PySem.W.Frag} {H : Hp} {p : PV} {v : V} (r : RP K H p v) (t : Ty) : ∃ u, TyX K H v u ∧ PySem.W.kitOne K u (.type t.name) = some (isI p t) := by
  have base : ∀ n : String, kitB n t.name = some (isI p t) → PySem.W.kitOne K (.type n) (.type t.name) = some (isI p t) := fun n e => kit_ty e
  have k1 : ∀ t : Ty, kitB "NoneType" t.name = some (isI .non t) := by intro t; cases t <;> decide +kernel
  have k2 : ∀ t : Ty, kitB "bool" t.name = some (isI (.bl true) t) := by intro t; cases t <;> decide +kernel
  have k3 : ∀ t : Ty, kitB "int" t.name = some (isI (.int 0) t) := by intro t; cases t <;> decide +kernel
  have k4 : ∀ t : Ty, kitB "str" t.name = some (isI (.str Str.empty) t) := by intro t; cases t <;> decide +kernel
  have k5 : ∀ t : Ty, kitB "tuple" t.name = some (isI (.tup []) t) := by intro t; cases t <;> decide +kernel
  have k6 : ∀ t : Ty, kitB "list" t.name = some (isI (.lst []) t) := by intro t; cases t <;> decide +kernel
  cases p with
  | non => cases r; exact ⟨_, .base .non, base _ (k1 t)⟩
  | bl b => cases r; exact ⟨_, .base (.bl b), base _ ((k2 t).trans (by cases t <;> rfl))⟩
  | int i => cases r; exact ⟨_, .base (.int i), base _ ((k3 t).trans (by cases t <;> rfl))⟩
  | str x => cases r; exact ⟨_, .base (.str x), base _ ((k4 t).trans (by cases t <;> rfl))⟩
  | tup xs =>
    obtain ⟨a, vs, rfl, h1, h2⟩ := r
    refine ⟨.type "tuple", ?_, base _ ((k5 t).trans (by cases t <;> rfl))⟩
    rcases h1 with (h1 | ⟨o, h1⟩) | ⟨o, its, n, h1, h3, _⟩
    · exact .base (.tup h1)
    · exact .fTuple h1
    · exact .kTuple h1 h3
  | lst xs =>
    obtain ⟨a, vs, rfl, h1, h2⟩ := r
    exact ⟨.type "list", .base (.lst h1), base _ ((k6 t).trans (by cases t <;> rfl))⟩
  | scr ns =>
    obtain ⟨a, rfl, h1⟩ := r
    refine ⟨.type "list", ?_, base _ ((k6 t).trans (by cases t <;> rfl))⟩
    rcases h1 with (h1 | ⟨o, h1⟩) | ⟨o, its, n, h1, h3, _⟩
    · exact .base (.lst h1)
    · exact .base (.frz h1)
    · exact .kList h1 h3
theorem s_isi (C : Cn T call k c X) (hg : Gl X ("isinstance" : Str)) (hst : ¬ isStar e = true) (hpl : (es.all fun e => !isStar e) = true) (h : PA X (e :: es) (tMs X W ms)) :
    PE X (.Call (.Name "isinstance" p) (e :: es) [] pos) (tM X W (mIsI ms)) := by
  refine PE.weak (pe_callB call_isi hg (C.blt _ (by decide)) boot_isinstance h (by decide) (by decide) (starPlain hst) (starsPlain hpl)) fun σ H Q ⟨F, μ, s, h, R, q⟩ => ?_
  refine ⟨F, μ, s, h, R, (At.bind q).mono fun x H1 ⟨F1, μ1, h1, sx, e1, R1, rx, q1⟩ => ?_⟩
  split at q1
  · rename_i y t
    split at q1
    · rename_i v ev
      obtain ⟨w, rr, rfl, r1, r2⟩ := rx
      obtain ⟨w2, rr2, rfl, r3, r4⟩ := r2
      cases r4
      cases r3
      obtain ⟨u, hu, hk⟩ := isI_kit (R1.rd r1 ev) t
      exact ⟨w, _, u, _, _, rfl, .ty _, hu, hk, q1 F1 μ1 H1 _ .refl R1 rfl⟩
    · exact q1.elim
  · exact q1.elim
theorem At.bare {F : Hp} {μ : List Addr} {σ : L2.St} {s : Sl} {H : Hp} {h : MH} {r : RE SV} {Q : VK} (R : Rp X.K X.mg F μ σ H s h) (x : At X.K X.mg W (RS X.K X.mg) F μ σ H s r Q) :
    At X.K X.mg (fun cls d _ H' => W cls d σ H') (RS X.K X.mg) F μ [] H [] r Q := by
  cases r with
  | ok a h' => exact fun F' μ' H' b e R' rb => x F' μ' H' b e (R.swap e R') rb
  | exc c fs h' => exact fun F' μ' H' cls d e R' rb => x F' μ' H' cls d e (R.swap e R') rb
  | stuck => exact x
theorem RSs.length {K : PySem.W.Frag} {mg : Str → Option Value} {F : Hp} {μ : List Addr} : ∀ {as : List SV} {vs : List V}, RSs K mg F μ as vs → as.length = vs.length
  | [], vs, h => by cases h; rfl
  | a :: as, vs, h => by
    obtain ⟨v, r, rfl, h1, h2⟩ := h
    simp [RSs.length h2]
theorem s_call (C : Cn T call k c X) (tk : Takes X W) {fi : FnI} (hf : T.fns.lookup f = some fi) (hg : Gl X f) (ho : okName f = true) (hst : ¬ isStar e = true) (hpl : (es.all fun e => !isStar e) = true) (h : PA X (e :: es) (tMs X W ms)) :
    PE X (.Call (.Name f p) (e :: es) [] pos) (tM X W (mCall call f fi.ps.length ms)) := by
  obtain ⟨a, fd, hm, hk, hb, _, F0⟩ := C.fns f fi hf
  refine PE.weak (pe_callSD (E := WE W) F0 C.room hg hm hk hb .nil (passAt tk) h (okName_dbg ho) (starPlain hst) (starsPlain hpl)) fun σ H Q ⟨F, μ, s, h, R, q⟩ => ?_
  refine ⟨F, μ, s, h, R, (At.bind q).mono fun x H1 ⟨F1, μ1, h1, sx, e1, R1, rx, q1⟩ => ?_⟩
  by_cases hl : sx.length = fi.ps.length
  · simp only [if_pos hl] at q1
    refine ⟨by rw [List.append_nil, ← rx.length]; exact hl, F1, μ1, h1, sx, R1.bare, by rw [List.append_nil]; exact rx, q1.bare R1⟩
  · simp only [if_neg hl] at q1
    exact q1.elim
theorem base_of {o : Expr} {m : Str} {env : Env} (h : plainBase o = true) : attributeBase o m env (eval o env) = eval o env := by
  cases o <;> first | rfl | cases h
theorem s_append {o : Expr} {ap : Pos} (hb : plainBase o = true) (hl : (ap.endLine == pos.line) = true) (hst : ¬ isStar e = true) (ho : PE X o (tM X W ma)) (he : PE X e (tM X W mb)) :
    PE X (.Call (.Attribute o "append" ap) [e] [] pos) (tM X W (mAppend ma mb)) := by
  refine PE.weak (pe_bm PySem.F.plainAttrs_list PySem.F.slot_list_append PySem.F.type_list_append mt_append ho (pa_cons he pa_nil (starPlain hst)) (base_of hb) ?_ hl (starPlain hst) rfl) fun σ H Q ⟨F, μ, s, h, R, q⟩ => ?_
  · rw [starPlain hst]
    rfl
  refine ⟨F, μ, s, h, R, (At.bind q).mono fun x H1 ⟨F1, μ1, h1, sx, e1, R1, rx, q1⟩ => ?_⟩
  cases sx with
  | ref l =>
    obtain ⟨a, hl1, rfl⟩ := rx
    have q1' : At X.K X.mg W (RS X.K X.mg) F1 μ1 σ H1 s (match h1[l]? with
      | some (.lst _) => mBind mb (fun v => fun _ h => match v.frz h with
        | some (v, h1) => match h1[l]? with
          | some (.lst xs) => if xs.length < sizeLine then .ok (.pv .non) (h1.set l (.lst (xs ++ [v]))) else .stuck
          | _ => .stuck
        | none => .stuck) s h1
      | _ => .stuck) Q := q1
    split at q1'
    · rename_i xs1 hx1
      obtain ⟨_, vs1, hv1, _⟩ := R1.mt l a _ hl1 hx1
      refine ⟨.inl ⟨rfl, vs1, SqL.of hv1⟩, F1, μ1, s, h1, R1, (At.bind q1').mono fun y H2 ⟨F2, μ2, h2, sy, e2, R2, ry, q2⟩ => ?_⟩
      cases hf : sy.frz h2 with
      | none => simp only [hf] at q2; exact q2.elim
      | some r =>
        obtain ⟨v, h3⟩ := r
        simp only [hf] at q2
        obtain ⟨F3, x3, R3, rv⟩ := R2.frz1 ry hf
        split at q2
        · rename_i xs hx
          have hl2 := pre_get e2.pre hl1
          obtain ⟨_, vs, hv, r⟩ := R3.mt l a xs hl2 hx
          by_cases hz : xs.length < sizeLine
          · rw [if_pos hz] at q2
            exact ⟨a, vs, y, rfl, rfl, hv, by rw [← r.length]; exact hz, q2 F3 μ2 _ _ (x3.trans (.write (List.mem_of_getElem? hl2))) (R3.write hl2 hx (r.append ⟨y, [], rfl, rv, rfl⟩)) rfl⟩
          · rw [if_neg hz] at q2; exact q2.elim
        · exact q2.elim
    · exact q1'.elim
  | _ => exact q1.elim
/-- the keywords' values -/
theorem pk_of {c : SC} {r : EvT} (hr : ∀ e, PE X e (tM X W (r.e c e))) : ∀ ks : List Keyword, PK X ks (tMs X W (kwsE r c ks))
  | [] => ⟨fun pos pins s σ H Q I ⟨F, μ, s1, h1, R, q⟩ => pk_nil.run pos pins s σ H Q I (q F μ H [] .refl R rfl)⟩
  | ⟨nm, e, kp⟩ :: ks => by
    refine ⟨fun pos pins s0 σ H Q I ⟨F, μ, s, h, R, q⟩ => (pk_cons (nm := nm) (kpos := kp) (hr e) (pk_of hr ks)).run pos pins s0 σ H Q I ?_⟩
    refine ⟨F, μ, s, h, R, (At.bind q).mono fun x H1 ⟨F1, μ1, h1, sx, e1, R1, rx, q1⟩ => ⟨F1, μ1, s, h1, R1, (At.bind q1).mono fun y H2 ⟨F2, μ2, h2, sy, e2, R2, ry, q2⟩ => ?_⟩⟩
    exact q2 F2 μ2 H2 _ .refl R2 ⟨x, y, rfl, rx.mono e2, ry⟩
theorem kwSome : ∀ {ks : List Keyword} {ns : List Str} {env : Env}, kwNames ks = ns.map some → ((backToKw pos (keywordEach ks env)).all (·.1.isSome) = true) ∧ ((backToKw pos (keywordEach ks env)).filterMap (·.1) = ns) ∧ ((backToKw pos (keywordEach ks env)).any (·.1.isNone) = false)
  | [], ns, env, h => by
    cases ns with
    | nil => exact ⟨rfl, rfl, rfl⟩
    | cons _ _ => cases h
  | ⟨nm, e, kp⟩ :: ks, ns, env, h => by
    cases ns with
    | nil => cases h
    | cons n ns =>
      have h : nm :: kwNames ks = some n :: ns.map some := h
      injection h with h1 h2
      subst h1
      obtain ⟨a1, a2, a3⟩ := kwSome (env := env) h2
      refine ⟨?_, ?_, ?_⟩
      · show (true && (backToKw pos (keywordEach ks env)).all (·.1.isSome)) = true
        rw [a1]; rfl
      · show n :: (backToKw pos (keywordEach ks env)).filterMap (·.1) = n :: ns
        rw [a2]
      · show (false || (backToKw pos (keywordEach ks env)).any (·.1.isNone)) = false
        rw [a3]; rfl
theorem run_fnNS {E : L2.St → XK} {fd : FuncData} {ps ks : List Str} {sp : Sp} {a : Addr} {g : List Value → List Value → List Value} {gV : List V → List V → List V} {n : Nat} {CXX : CXT} {pins : List (Addr × Obj)} {σ : L2.St} {H : Hp} {s : Shared} {Q : VK} {us ws : List Value} {vs zs : List V} (F : FnOk X.prog X.w X.K X.mg X.base CXX k a fd ps sp) (hr : Room k X.A) (hb : KBn X.K fd ps n ks g gV) (hx : PassesAt CXX X σ (E σ))
    (I : Inv X pins σ H s) (r : Vals vs us) (rz : Vals zs ws) (l1 : vs.length = n) (l2 : zs.length = ks.length) (h : sp (gV vs zs) H Q (E σ)) : wpAny (model X.prog X.w) X.A (PySem.call (.ref a) us (ks.zip ws)) (EP X pins σ Q) X.xe s := by
  have r2 := hb.rel r rz
  refine wpAny_call (codeAny_mono (F.run X.A X.stack s H ⟨us, ks.zip ws⟩ (g us ws) (gV vs zs) Q (E σ) hr I.env0 (hb.to s us ws I.kIn (r.length.symm.trans l1) (rz.length.symm.trans l2)) r2 h) fun r s' hq => ?_)
  cases r with
  | error e => exact hx pins H s e s' I hq
  | ok fl =>
    cases fl with
    | ret u => exact I.after hq
    | next => exact False.elim hq
    | brk => exact False.elim hq
    | cont => exact False.elim hq
theorem kw_read {a : Nat} {n1 n2 : Nat} {np : Nat} (hnp : n1 + n2 = np) {mk : ME (List SV)} {σ : L2.St} {H : Hp} {Q : VK} (q : tM X W (mCallK call f n1 n2 ms mk) σ H Q) :
    tMs X W ms σ H fun vs H1 => tMs X W mk σ H1 fun zs H2 => vs.length = n1 ∧ zs.length = n2 ∧ spM X.K X.mg (call f) np (vs ++ zs) H2 Q (WE W σ) := by
  obtain ⟨F, μ, s, h, R, q⟩ := q
  refine ⟨F, μ, s, h, R, (At.bind q).mono fun x H1 ⟨F1, μ1, h1, sx, e1, R1, rx, q1⟩ => ⟨F1, μ1, s, h1, R1, (At.bind q1).mono fun y H2 ⟨F2, μ2, h2, sy, e2, R2, ry, q2⟩ => ?_⟩⟩
  by_cases hl : sx.length = n1 ∧ sy.length = n2
  · simp only [if_pos hl] at q2
    have rxy : ∀ {xs : List SV} {vs : List V}, RSs X.K X.mg F2 μ2 xs vs → RSs X.K X.mg F2 μ2 (xs ++ sy) (vs ++ y) := fun {xs vs} r => by
      induction xs generalizing vs with
      | nil => cases r; exact ry
      | cons x xs ih =>
        obtain ⟨v, rr, rfl, r1, r2⟩ := r
        exact ⟨v, rr ++ y, rfl, r1, ih r2⟩
    refine ⟨by rw [← rx.length]; exact hl.1, by rw [← ry.length]; exact hl.2, by rw [List.length_append, ← rx.length, ← ry.length, hl.1, hl.2, hnp], F2, μ2, h2, sx ++ sy, R2.bare, rxy (rx.mono e2), q2.bare R2⟩
  · simp only [if_neg hl] at q2
    exact q2.elim
theorem s_callK (C : Cn T call k c X) (tk : Takes X W) {fi : FnI} (hf : T.fns.lookup f = some fi) (hg : Gl X f) (ho : okName f = true) (hst : (es.all fun e => !isStar e) = true) {ks : List Keyword} {mk : ME (List SV)} (hn : es.length ∈ fi.kwn) (hle : es.length ≤ fi.ps.length) (hk : kwNames ks = (fi.ps.drop es.length).map some)
    (h : PA X es (tMs X W ms)) (hm0 : es = [] → ms = mPure []) (hks : PK X ks (tMs X W mk)) :
    PE X (.Call (.Name f p) es ks pos) (tM X W (mCallK call f es.length (fi.ps.drop es.length).length ms mk)) := by
  obtain ⟨a, fd, hm, hkp, _, hbk, F0⟩ := C.fns f fi hf
  have hb := hbk es.length hn
  obtain ⟨k1, k2, k3⟩ := kwSome (pos := pos) (env := X.env) hk
  have hnp : es.length + (fi.ps.drop es.length).length = fi.ps.length := by rw [List.length_drop]; omega
  refine ⟨fun pins s σ H Q I q => ?_⟩
  have q := kw_read (a := 0) hnp q
  refine wpAny_Call_Name_kw (ld_glob I hg hm ?_ (okName_dbg ho))
  have fin : ∀ {us ws : List Value} {vs zs : List V} {H2 : Hp} {s2 : Shared}, Inv X pins σ H2 s2 → Vals vs us → Vals zs ws → vs.length = es.length ∧ zs.length = (fi.ps.drop es.length).length ∧ spM X.K X.mg (call f) fi.ps.length (vs ++ zs) H2 Q (WE W σ) →
      wpAny (model X.prog X.w) X.A (PySem.call (.ref a) us (((backToKw pos (keywordEach ks X.env)).filterMap (·.1)).zip ws)) (EP X pins σ Q) X.xe s2 := fun I2 r rz ⟨l1, l2, h⟩ => by
    rw [k2]
    exact run_fnNS (E := WE W) F0 C.room hb (passAt tk σ) I2 r rz l1 l2 h
  cases es with
  | nil =>
    refine PySem.W.callWith_KW0 (h₀ := X.base) I.ok.mod.kin hkp k1 ?_ (by show (false || _) = false; rw [k3]; rfl)
    rw [hm0 rfl] at q
    obtain ⟨F, μ, s1, h1, R, q⟩ := q
    exact thn (hks.run pos pins s σ H _ I (q F μ H [] .refl R rfl)) fun ws s2 ⟨zs, H2, I2, rz, q2⟩ => ⟨I2.kIn, fin I2 (vs := []) .nil rz q2⟩
  | cons e es =>
    simp only [List.all_cons, Bool.and_eq_true, Bool.not_eq_true'] at hst
    have h1 : ¬ isStar e = true := by rw [hst.1]; decide
    have h2 : (es.all fun e => !isStar e) = true := by simpa using hst.2
    refine PySem.W.callWith_KW (h₀ := X.base) I.ok.mod.kin hkp k1 (thn (h.run pos pins s σ H _ I q) fun us s1 ⟨vs, H1, I1, r, q1⟩ => ?_) ?_ (starPlain h1)
    · exact thn (hks.run pos pins s1 σ H1 _ I1 q1) fun ws s2 ⟨zs, H2, I2, rz, q2⟩ => ⟨I2.kIn, fin I2 r rz q2⟩
    · rw [starPlain h1]
      show ((false || (backTo pos (starEach es X.env)).any (·.1)) || _) = false
      rw [starsPlain h2, k3]
      rfl
theorem s_call0 (C : Cn T call k c X) (tk : Takes X W) {fi : FnI} (hf : T.fns.lookup f = some fi) (hg : Gl X f) (ho : okName f = true) :
    PE X (.Call (.Name f p) [] [] pos) (tM X W (mCall call f fi.ps.length (mPure []))) := by
  obtain ⟨a, fd, hm, hkp, hb, _, F0⟩ := C.fns f fi hf
  refine ⟨fun pins s σ H Q I ⟨F, μ, s1, h1, R, q⟩ => ?_⟩
  have q : At X.K X.mg W (RS X.K X.mg) F μ σ H s1 (if ([] : List SV).length = fi.ps.length then call f [] h1 else .stuck) Q := q
  by_cases hl : ([] : List SV).length = fi.ps.length
  · rw [if_pos hl] at q
    refine wpAny_Call_Name_kw (ld_glob I hg hm ?_ (okName_dbg ho))
    refine PySem.W.callWith_K0 I.kIn hkp ?_
    exact run_fnS (E := WE W) F0 C.room hb (passAt tk σ) I .nil ⟨hl, F, μ, h1, [], R.bare, rfl, q.bare R⟩
  · rw [if_neg hl] at q
    exact q.elim
end
end Pv
/-! Pv8: targets, what is walked, comprehensions. -/
namespace Pv
open PySem PySem.Spec PyProof.Rows L2
section
variable {X : Cx} {W : WX} {a b d e : Expr} {es : List Expr} {ma mb md : ME SV} {ms : ME (List SV)} {pos p : Pos} {f : Str}
variable {T : Tab} {call : Str → List SV → MH → RE SV} {k : Nat} {c : SC}
/-! ### targets -/
theorem Rp.exs {K : PySem.W.Frag} {mg : Str → Option Value} {F H : Hp} {μ : List Addr} {σ : L2.St} {s : Sl} {h : MH} (R : Rp K mg F μ σ H s h) : Rp K mg F μ σ H s h := R
def gT (X : Cx) (tg : Tg) : TG := fun v σ H Q => ∃ F μ s h sv s', Rp X.K X.mg F μ σ H s h ∧ RS X.K X.mg F μ sv v ∧ tg.put sv s = some s' ∧
  ∀ σ', Rp X.K X.mg F μ σ' H s' h → (∀ vs : List Nat, (∀ i ∈ tg.slots, i ∈ vs) → wipe σ' vs = wipe σ vs) → Q σ' H
theorem wipe_set {σ : L2.St} {i : Nat} {x : Option V} : ∀ {vs : List Nat}, i ∈ vs → wipe (σ.set i x) vs = wipe σ vs
  | [], h => nomatch h
  | v :: vs, h => by
    have key : ∀ us : List Nat, i ∉ us → wipe (σ.set i x) us = (wipe σ us).set i x := by
      intro us
      induction us with
      | nil => intro _; rfl
      | cons u us ih =>
        intro hn
        simp only [List.mem_cons, not_or] at hn
        unfold wipe
        rw [ih hn.2, List.set_comm _ _ hn.1]
    unfold wipe
    by_cases hm : i ∈ vs
    · rw [wipe_set hm]
    · rcases List.mem_cons.mp h with rfl | h
      · rw [key vs hm, List.set_set]
      · exact absurd h hm
theorem sto_of (C : Cn T call k c X) {x : Str} (h : c.sto x = true) : Loc X.env.scope x := by
  rw [C.sc]
  unfold SC.sto at h
  split at h
  · exact .inl (by assumption)
  · exact .inr (by assumption)
  · cases h
theorem nameIx_of {e : Expr} {i : Nat} (h : nameIx c e = some i) : ∃ x pos, e = .Name x pos ∧ c.sto x = true ∧ c.N[i]? = some x := by
  cases e with
  | Name x pos =>
    have h : (if c.sto x = true then c.ix x else none) = some i := h
    split at h
    · exact ⟨x, pos, rfl, by assumption, ix_of h⟩
    · cases h
  | _ => cases h
def gNs : List Nat → TGs
  | [] => gNil
  | i :: is => gCons (gName i) (gNs is)
theorem names_plain {env : Env} : ∀ {es : List Expr} {is : List Nat}, es.mapM (nameIx c) = some is → (assignEach es env).length = is.length ∧ (assignEach es env).findIdx? (·.1) = none
  | [], is, h => by
    cases h
    exact ⟨rfl, rfl⟩
  | e :: es, is, h => by
    simp only [List.mapM_cons, Option.bind_eq_bind, Option.bind_eq_some_iff] at h
    obtain ⟨i, h1, js, h2, h3⟩ := h
    cases h3
    obtain ⟨x, pos, rfl, _, _⟩ := nameIx_of h1
    obtain ⟨e1, e2⟩ := names_plain (env := env) h2
    refine ⟨?_, ?_⟩
    · show (assignEach es env).length + 1 = js.length + 1
      rw [e1]
    · show ((false, assign (Expr.Name x pos) env) :: assignEach es env).findIdx? (·.1) = none
      rw [List.findIdx?_cons, e2]
      rfl
theorem pgs_names (C : Cn T call k c X) : ∀ {es : List Expr} {is : List Nat}, es.mapM (nameIx c) = some is → PGs X es (gNs is)
  | [], is, h => by
    cases h
    exact pgs_nil
  | e :: es, is, h => by
    simp only [List.mapM_cons, Option.bind_eq_bind, Option.bind_eq_some_iff] at h
    obtain ⟨i, h1, js, h2, h3⟩ := h
    cases h3
    obtain ⟨x, pos, rfl, hs, hi⟩ := nameIx_of h1
    exact pgs_cons (pg_name (by rw [C.N]; exact C.nd) (by rw [C.N]; exact hi) (sto_of C hs) (C.fn x hs)) (pgs_names C h2) rfl
theorem gNs_put {K : PySem.W.Frag} {mg : Str → Option Value} {F H : Hp} {μ : List Addr} {h : MH} {Q : L2.St → Hp → Prop} : ∀ {is : List Nat} {ps : List PV} {vs : List V} {σ : L2.St} {s s' : Sl}, Rp K mg F μ σ H s h → RPs K F ps vs → putAll is ps s = some s' →
    (∀ σ', Rp K mg F μ σ' H s' h → (∀ ws : List Nat, (∀ i ∈ is, i ∈ ws) → wipe σ' ws = wipe σ ws) → Q σ' H) → gNs is vs σ H Q
  | [], [], vs, σ, s, s', R, r, e, q => by
    cases r
    cases e
    exact ⟨rfl, q σ R fun _ _ => rfl⟩
  | i :: is, p :: ps, vs, σ, s, s', R, r, e, q => by
    obtain ⟨v, rr, rfl, r1, r2⟩ := r
    refine ⟨v, rr, rfl, ?_⟩
    exact gNs_put (R.slot (i := i) (v := .pv p) (w := v) r1) r2 e fun σ' R' hw => q σ' R' fun ws hs => by
      rw [hw ws fun j hj => hs j (List.mem_cons_of_mem _ hj)]
      exact wipe_set (hs i List.mem_cons_self)
  | [], _ :: _, vs, σ, s, s', R, r, e, q => by cases e
  | _ :: _, [], vs, σ, s, s', R, r, e, q => by cases e
theorem put_tup {is : List Nat} {sv : SV} {s s' : Sl} (e : (Tg.tup is).put sv s = some s') : ∃ ps, sv = .pv (.tup ps) ∧ putAll is ps s = some s' := by
  cases sv with
  | pv v =>
    cases v with
    | tup ps => exact ⟨ps, rfl, e⟩
    | _ => cases e
  | _ => cases e
theorem putAll_length : ∀ {is : List Nat} {ps : List PV} {s s' : Sl}, putAll is ps s = some s' → is.length = ps.length
  | [], [], _, _, _ => rfl
  | i :: is, p :: ps, _, _, e => by
    simp only [List.length_cons]
    rw [putAll_length (is := is) (ps := ps) e]
  | [], _ :: _, _, _, e => nomatch e
  | _ :: _, [], _, _, e => nomatch e
theorem p_tg (C : Cn T call k c X) {tg : Tg} (h : tgE c e = some tg) : PG X e (gT X tg) := by
  cases e with
  | Name x pos =>
    have h : (if c.sto x = true then (c.ix x).map Tg.name else none) = some tg := h
    split at h
    · rename_i hs
      obtain ⟨i, hi, rfl⟩ := Option.map_eq_some_iff.mp h
      refine ⟨fun pins s σ H v u Q I r q => ?_⟩
      obtain ⟨F, μ, s1, h1, sv, s', R, rv, e, q⟩ := q
      cases e
      exact (pg_name (by rw [C.N]; exact C.nd) (by rw [C.N]; exact ix_of hi) (sto_of C hs) (C.fn x hs)).run pins s σ H v u Q I r (q _ (R.slot rv) fun vs hm => wipe_set (hm i (by simp [Tg.slots])))
    · cases h
  | Tuple es j pos =>
    have h : (es.mapM (nameIx c)).map Tg.tup = some tg := h
    obtain ⟨is, hi, rfl⟩ := Option.map_eq_some_iff.mp h
    obtain ⟨h1, h2⟩ := names_plain (env := X.env) hi
    refine ⟨fun pins s σ H v u Q I r q => (pg_tup (n := is.length) C.calm (pgs_names C hi) h1 h2).run pins s σ H v u Q I r ?_⟩
    obtain ⟨F, μ, s1, h1, sv, s', R, rv, e, q⟩ := q
    obtain ⟨ps, rfl, e⟩ := put_tup e
    obtain ⟨a, vs, rfl, hs, r1⟩ := rv
    exact ⟨a, vs, rfl, SqT.mono R.le hs, by rw [← r1.length, putAll_length e], gNs_put R r1 e q⟩
  | _ => cases h

/-! ### what is walked -/
/-- the iterator yields the items xs, whatever grows -/
structure ItsOf (K : PySem.W.Frag) (F : Hp) (J : It) (xs : List PV) : Prop where
  go : ∀ i H, Le F H → i < xs.length → J.go i H
  stop : ∀ i H, Le F H → xs.length ≤ i → J.stop i H
  yld : ∀ i F' H x H', i < xs.length → Le F F' → Le F' H → J.yld i H x H' → ∃ p F'', xs[i]? = some p ∧ Gro F' H F'' H' ∧ RP K F'' p x
def Gives (K : PySem.W.Frag) (F : Hp) (μ : List Addr) (J : It) : Wk → Prop
  | .its xs => ItsOf K F J xs
  | .live l _ => ∃ a, μ[l]? = some a ∧ J = Itl K a
def tWk (X : Cx) (W : WX) (m : ME Wk) : TI := fun σ H R => WM X W (fun F μ w J => Gives X.K F μ J w) m σ H R
theorem its_list {K : PySem.W.Frag} {F : Hp} {a : Addr} {xs : List PV} {vs : List V} (h : SqL K F a vs) (r : RPs K F xs vs) : ItsOf K F (Itl K a) xs := by
  refine ⟨fun i H le hi => ?_, fun i H le hi => ⟨vs, SqL.mono le h, by rw [← r.length]; exact hi⟩, fun i F' H x H' hlt le le' y => ?_⟩
  · obtain ⟨v, e, _⟩ := r.get (List.getElem?_eq_getElem hi)
    exact ⟨vs, v, SqL.mono le h, e⟩
  · obtain ⟨rfl, y⟩ := y
    have e := y vs (SqL.mono (le.trans le') h)
    have hi : i < xs.length := by rw [r.length]; exact (List.getElem?_eq_some_iff.mp e).1
    obtain ⟨v, e', rv⟩ := r.get (List.getElem?_eq_getElem hi)
    rw [e] at e'
    cases e'
    exact ⟨_, F', List.getElem?_eq_getElem hi, .refl le', RP.mono le _ _ rv⟩
theorem its_tup {K : PySem.W.Frag} {F : Hp} {a : Addr} {xs : List PV} {vs : List V} (h : SqT K F a vs) (r : RPs K F xs vs) : ItsOf K F (Itt K a) xs := by
  refine ⟨fun i H le hi => ?_, fun i H le hi => ⟨vs, SqT.mono le h, by rw [← r.length]; exact hi⟩, fun i F' H x H' hlt le le' y => ?_⟩
  · obtain ⟨v, e, _⟩ := r.get (List.getElem?_eq_getElem hi)
    exact ⟨vs, v, SqT.mono le h, e⟩
  · obtain ⟨rfl, y⟩ := y
    have e := y vs (SqT.mono (le.trans le') h)
    have hi : i < xs.length := by rw [r.length]; exact (List.getElem?_eq_some_iff.mp e).1
    obtain ⟨v, e', rv⟩ := r.get (List.getElem?_eq_getElem hi)
    rw [e] at e'
    cases e'
    exact ⟨_, F', List.getElem?_eq_getElem hi, .refl le', RP.mono le _ _ rv⟩
theorem its_range {K : PySem.W.Frag} {F : Hp} {lo : Int} {n : Nat} : ItsOf K F (Itr lo n) (rangeL lo n) := by
  have hl : (rangeL lo n).length = n := by simp [rangeL]
  refine ⟨fun i H le hi => by rw [hl] at hi; exact hi, fun i H le hi => by rw [hl] at hi; exact hi, fun i F' H x H' hlt le le' y => ?_⟩
  obtain ⟨e1, e2⟩ := y
  subst e1 e2
  rw [hl] at hlt
  exact ⟨.int (lo + i), F', by simp [rangeL, hlt], .refl le', rfl⟩
theorem pi_seq {tg l : Expr} {tl : TE} (hl : PE X l tl) : PI X tg l (fun σ H R => tl σ H fun x H1 => ∃ a, x = .ref a ∧ (((∃ xs, SqL X.K H1 a xs) ∧ R (Itl X.K a) H1) ∨ ((∃ xs, SqT X.K H1 a xs) ∧ R (Itt X.K a) H1))) := by
  refine ⟨fun pins s σ H R I h => ?_⟩
  refine thn (hl.run pins s σ H _ I h) fun v s1 ⟨x, H1, I1, r1, q1⟩ => ?_
  obtain ⟨a, e, ⟨⟨xs, hq⟩, q⟩ | ⟨⟨xs, hq⟩, q⟩⟩ := q1
  · subst e
    cases r1
    obtain ⟨its, rv, p, hz⟩ := I1.list hq
    refine wpAny_pyIter_list p.isList ?_
    refine ⟨s1.heap.objs.size, [s1.heap.objs.size], _, _, H1, rfl, I1.kept (t' := s1.toks) fun b o e => Heap.get?_push_of_some _ e, turn_list a _, ⟨_, Heap.get?_push_size _ rfl, rfl, rfl⟩, fun b hb => ?_, q⟩
    have e : b = s1.heap.objs.size := by simpa using hb
    subst e
    exact I1.fpOk (Nat.le_refl _) (I1.hok.fresh (Nat.le_refl _))
  · subst e
    cases r1
    obtain ⟨its, rv, p, hz⟩ := I1.tuple hq
    refine wpAny_pyIter_tuple (show s1.heap.IsTuple a its.toArray from p) ?_
    refine ⟨s1.heap.objs.size, [s1.heap.objs.size], _, _, H1, rfl, I1.kept (t' := s1.toks) fun b o e => Heap.get?_push_of_some _ e, turn_tuple a _, ⟨_, Heap.get?_push_size _ rfl, rfl, rfl⟩, fun b hb => ?_, q⟩
    have e : b = s1.heap.objs.size := by simpa using hb
    subst e
    exact I1.fpOk (Nat.le_refl _) (I1.hok.fresh (Nat.le_refl _))
theorem PI.weak {tg it : Expr} {t t' : TI} (h : PI X tg it t) (k : ∀ σ H R, t' σ H R → t σ H R) : PI X tg it t' := ⟨fun pins s σ H R I q => h.run pins s σ H R I (k _ _ _ q)⟩
theorem p_seq {tg l : Expr} (hl : PE X l (tM X W ma)) : PI X tg l (tWk X W (wkV ma)) := by
  refine PI.weak (pi_seq hl) fun σ H Rr ⟨F, μ, s, h, R, q⟩ => ?_
  refine ⟨F, μ, s, h, R, (At.bind q).mono fun x H1 ⟨F1, μ1, h1, sx, e1, R1, rx, q1⟩ => ?_⟩
  cases sx with
  | pv v =>
    cases ei : items? v with
    | none => simp only [ei] at q1; exact q1.elim
    | some xs =>
      simp only [ei] at q1
      have fin : ∀ J, ItsOf X.K F1 J xs → Rr J H1 := fun J g => q1 F1 μ1 H1 J .refl R1 g
      cases v with
      | tup ys =>
        cases ei
        obtain ⟨a, vs, rfl, h1, h2⟩ := rx
        exact ⟨a, rfl, .inr ⟨⟨vs, SqT.mono R1.le h1⟩, fin _ (its_tup h1 h2)⟩⟩
      | lst ys =>
        cases ei
        obtain ⟨a, vs, rfl, h1, h2⟩ := rx
        exact ⟨a, rfl, .inl ⟨⟨vs, SqL.of (R1.le _ _ h1)⟩, fin _ (its_list (SqL.of h1) h2)⟩⟩
      | scr ns =>
        cases ei
        obtain ⟨a, rfl, h1⟩ := rx
        exact ⟨a, rfl, .inl ⟨⟨_, SqL.mono R1.le h1⟩, fin _ (its_list h1 .of_ints)⟩⟩
      | _ => cases ei
  | ref l =>
    cases ei : h1[l]? with
    | none => simp only [ei] at q1; exact q1.elim
    | some o =>
      cases o with
      | dead => simp only [ei] at q1; exact q1.elim
      | lst xs =>
        simp only [ei] at q1
        obtain ⟨a, h2, rfl⟩ := rx
        obtain ⟨_, vs, h3, h4⟩ := R1.mt l a xs h2 ei
        exact ⟨a, rfl, .inl ⟨⟨vs, SqL.of h3⟩, q1 F1 μ1 H1 _ .refl R1 ⟨a, h2, rfl⟩⟩⟩
  | _ => exact q1.elim
theorem mIte {α : Type} {P : Prop} [Decidable P] {m : ME α} {β : Type} {rel : Hp → List Addr → α → β → Prop} {F H : Hp} {μ : List Addr} {σ : L2.St} {s : Sl} {h : MH} {Q : β → Hp → Prop}
    (q : At X.K X.mg W rel F μ σ H s ((if P then m else mStuck) s h) Q) : P ∧ At X.K X.mg W rel F μ σ H s (m s h) Q := by
  by_cases hp : P
  · rw [if_pos hp] at q
    exact ⟨hp, q⟩
  · rw [if_neg hp] at q
    exact q.elim
theorem rng1_of {K : PySem.W.Frag} {mg : Str → Option Value} {F : Hp} {μ : List Addr} {sx : List SV} {vs : List V} {j : Int} (e : rng1 sx = some j) (r : RSs K mg F μ sx vs) : vs = [.int j] ∧ -(2 ^ 62) ≤ j ∧ j < 2 ^ 62 := by
  unfold rng1 at e
  split at e
  · split at e
    · rename_i hb
      cases e
      obtain ⟨v, rr, rfl, r1, r2⟩ := r
      cases r1; cases r2
      exact ⟨rfl, hb⟩
    · cases e
  · cases e
theorem rng2_of {K : PySem.W.Frag} {mg : Str → Option Value} {F : Hp} {μ : List Addr} {sx : List SV} {vs : List V} {i j : Int} (e : rng2 sx = some (i, j)) (r : RSs K mg F μ sx vs) : vs = [.int i, .int j] ∧ -(2 ^ 62) ≤ i ∧ i < 2 ^ 62 ∧ -(2 ^ 62) ≤ j ∧ j < 2 ^ 62 := by
  unfold rng2 at e
  split at e
  · split at e
    · rename_i hb
      cases e
      obtain ⟨v, rr, rfl, r1, r2⟩ := r
      obtain ⟨v2, rr2, rfl, r3, r4⟩ := r2
      cases r1; cases r3; cases r4
      exact ⟨rfl, hb⟩
    · cases e
  · cases e
theorem p_range1 (C : Cn T call k c X) {tg : Expr} (hg : Gl X ("range" : Str)) (hst : ¬ isStar e = true) (h : PA X [e] (tMs X W ms)) : PI X tg (.Call (.Name "range" p) [e] [] pos) (tWk X W (wkRange1 ms)) := by
  refine PI.weak (pi_range1 hg (C.blt _ (by decide)) h (starPlain hst)) fun σ H Rr ⟨F, μ, s, h, R, q⟩ => ?_
  refine ⟨F, μ, s, h, R, (At.bind q).mono fun x H1 ⟨F1, μ1, h1, sx, e1, R1, rx, q1⟩ => ?_⟩
  cases e : rng1 sx with
  | none => simp only [e] at q1; exact q1.elim
  | some j =>
    simp only [e] at q1
    obtain ⟨rfl, b1, b2⟩ := rng1_of e rx
    exact ⟨j, rfl, b1, b2, q1 F1 μ1 H1 _ .refl R1 its_range⟩
theorem p_range2 (C : Cn T call k c X) {tg : Expr} (hg : Gl X ("range" : Str)) (hst : ¬ isStar a = true) (hst2 : ¬ isStar b = true) (h : PA X [a, b] (tMs X W ms)) : PI X tg (.Call (.Name "range" p) [a, b] [] pos) (tWk X W (wkRange2 ms)) := by
  refine PI.weak (pi_range2 hg (C.blt _ (by decide)) h (by rw [starPlain hst, starPlain hst2]; rfl) (starPlain hst2)) fun σ H Rr ⟨F, μ, s, h, R, q⟩ => ?_
  refine ⟨F, μ, s, h, R, (At.bind q).mono fun x H1 ⟨F1, μ1, h1, sx, e1, R1, rx, q1⟩ => ?_⟩
  cases e : rng2 sx with
  | none => simp only [e] at q1; exact q1.elim
  | some ij =>
    obtain ⟨i, j⟩ := ij
    simp only [e] at q1
    obtain ⟨rfl, b1, b2, b3, b4⟩ := rng2_of e rx
    exact ⟨i, j, rfl, ⟨b1, b2, b3, b4⟩, q1 F1 μ1 H1 _ .refl R1 its_range⟩
theorem foldSet {it : Expr} (h : ¬ isSet it = true) {env : Env} : ∀ x, foldedSetIterable it env x = pure x := fun x => by
  cases it <;> first | rfl | (exact absurd rfl h)
theorem p_iter (C : Cn T call k c X) {tg : Expr} {r : EvT} (hr : ∀ e, PE X e (tM X W (r.e c e))) (it : Expr) : PI X tg it (tWk X W (iterE r c it)) := by
  have gen : PI X tg it (tWk X W (wkV (r.e c it))) := p_seq (hr it)
  unfold iterE
  split
  · split
    · rename_i hc
      obtain ⟨rfl, hg⟩ := hc
      split
      · exact ⟨fun _ _ _ _ _ _ ⟨_, _, _, _, _, z⟩ => z.elim⟩
      · exact p_range1 C (C.gl hg) (by assumption) (s_args hr _)
    · exact gen
  · split
    · rename_i hc
      obtain ⟨rfl, hg⟩ := hc
      split
      · exact ⟨fun _ _ _ _ _ _ ⟨_, _, _, _, _, z⟩ => z.elim⟩
      · rename_i hs
        exact p_range2 C (C.gl hg) (fun z => hs (.inl z)) (fun z => hs (.inr z)) (s_args hr _)
    · exact gen
  · exact ⟨fun _ _ _ _ _ _ ⟨_, _, _, _, _, z⟩ => z.elim⟩
  · exact gen

/-! ### comprehensions -/
theorem wipe_wipe {σ : L2.St} (vs : List Nat) : wipe (wipe σ vs) vs = wipe σ vs := by
  have key : ∀ (us vs : List Nat) (τ : L2.St), (∀ i ∈ us, i ∈ vs) → wipe (wipe τ us) vs = wipe τ vs := by
    intro us
    induction us with
    | nil => intro vs τ _; rfl
    | cons u us ih =>
      intro vs τ hs
      show wipe ((wipe τ us).set u none) vs = wipe τ vs
      rw [wipe_set (hs u List.mem_cons_self)]
      exact ih vs τ fun i hi => hs i (List.mem_cons_of_mem _ hi)
  exact key vs vs σ fun _ h => h
/-- a list beside becomes one of ours -/
theorem Rp.adopt {K : PySem.W.Frag} {mg : Str → Option Value} {F H : Hp} {μ : List Addr} {σ : L2.St} {s : Sl} {h : MH} {D : Addr} {ys : List PV} {vs : List V} (R : Rp K mg F μ σ H s h) (hF : F D = none) (hD : D ∉ μ) (e : H D = some (.lst vs)) (r : RPs K F ys vs) :
    Rp K mg F (μ ++ [D]) σ H s (h ++ [.lst ys]) := by
  refine ⟨R.le, by simp [R.len], ?_, fun l a zs e1 e2 => ?_, fun i v e1 => ?_, R.sl, fun a ha => ?_⟩
  · rw [List.nodup_append]
    refine ⟨R.nod, by simp, fun a ha b hb e0 => ?_⟩
    simp at hb
    subst hb e0
    exact hD ha
  · by_cases hl : l < μ.length
    · rw [List.getElem?_append_left hl] at e1
      rw [List.getElem?_append_left (by rw [← R.len]; exact hl)] at e2
      exact R.mt l a zs e1 e2
    · have hl' : l = μ.length := by
        have := (List.getElem?_eq_some_iff.mp e1).1
        simp at this
        omega
      subst hl'
      rw [List.getElem?_append_right (Nat.le_refl _)] at e1
      rw [R.len, List.getElem?_append_right (Nat.le_refl _)] at e2
      simp at e1 e2
      subst e1 e2
      exact ⟨hF, vs, e, r⟩
  · obtain ⟨w, e2, r1⟩ := R.slots i v e1
    exact ⟨w, e2, r1.mono0 Le.refl (List.prefix_append _ _)⟩
  · rcases List.mem_append.mp ha with z | z
    · exact R.all a z
    · simp at z; subst z; exact ⟨vs, e⟩
/-- a list beside is fixed -/
theorem Rp.freeze {K : PySem.W.Frag} {mg : Str → Option Value} {F H : Hp} {μ : List Addr} {σ : L2.St} {s : Sl} {h : MH} {D : Addr} {o : HO} (R : Rp K mg F μ σ H s h) (hD : D ∉ μ) (e : H D = some o) (hF : F D = none := by assumption) :
    Rp K mg (upd F D o) μ σ H s h := by
  have le2 : Le F (upd F D o) := fun a u e => by rw [upd_ne (ne_of_none e hF)]; exact e
  refine ⟨fun a u e1 => ?_, R.len, R.nod, fun l a zs e1 e2 => ?_, fun i v e1 => ?_, R.sl, R.all⟩
  · by_cases ha : a = D
    · subst ha; rw [upd_same] at e1; cases e1; exact e
    · rw [upd_ne ha] at e1; exact R.le a u e1
  · obtain ⟨n, vs, e3, r⟩ := R.mt l a zs e1 e2
    refine ⟨?_, vs, e3, RPs.mono le2 _ _ r⟩
    rw [upd_ne (show a ≠ D from fun z => hD (by rw [← z]; exact List.mem_of_getElem? e1))]
    exact n
  · obtain ⟨w, e2, r1⟩ := R.slots i v e1
    exact ⟨w, e2, r1.mono0 le2 (List.prefix_refl _)⟩
theorem Cn.blk (C : Cn T call k c X) {scope : Scope} (hb : blkC c.N c.sc scope (blkOwn c scope) = true) (s : Shared) (H : Hp) (Ca : Addr) (cl : List (Str × Addr)) (fp : List Addr) :
    Cn T call k (c.sub scope) (X.blk s H scope (compEnvC scope cl Ca X.env) fp) where
  N := C.N
  nd := C.nd
  sc := by
    show relabel scope X.env = relS scope c.sc
    rw [← C.sc]
    rfl
  calm := C.calm
  fn := fun x h => by
    show (scope.names.lookup x == some .cell) = true ∨ (relabel scope X.env).names.lookup x = some .local
    have e : relabel scope X.env = relS scope c.sc := by rw [← C.sc]; rfl
    rw [e]
    unfold SC.sto at h
    split at h
    · exact .inr (by assumption)
    · exact .inl h
    · cases h
  room := C.room
  con := C.con
  blt := C.blt
  fns := C.fns
theorem comp_read {mt : Bool} {mi : ME Wk} {vs : List Nat} {g : Tg} {tt : ME Bool} {te : ME SV} (hgs : ∀ i ∈ g.slots, i ∈ vs) {σ : L2.St} {H : Hp} {Q : VK}
    (q : tM X W (mComp mt vs mi g tt te) σ H Q) : tLc (tWk X W mi) (gT X g) (tMB X (fun _ _ _ _ => False) tt) (tM X (fun _ _ _ _ => False) te) vs σ H Q := by
  obtain ⟨F, μ, s, h, R, q⟩ := q
  refine ⟨F, μ, s, h, R, (At.bind q).mono fun J H1 ⟨F1, μ1, h1, w, e1, R1, rw, q1⟩ D hD => ?_⟩
  cases w with
  | live l xs => exact q1.elim
  | its xs =>
    dsimp only at q1
    cases hres : compLoop g tt te (wipeS s vs) xs [] h1 with
    | exc cc fs hh => simp only [hres] at q1; exact q1.elim
    | stuck => simp only [hres] at q1; exact q1.elim
    | ok ys hend =>
      simp only [hres] at q1
      -- the loop's invariant
      have nD := R1.notin hD
      refine ⟨fun i m H2 => ∃ F2 μ2 h2 acc ws, Ex F1 μ1 H1 F2 μ2 H2 ∧ F2 D = none ∧ D ∉ μ2 ∧ H2 D = some (.lst ws) ∧ RPs X.K F2 acc ws ∧ Rp X.K X.mg F2 μ2 σ H2 s h2 ∧ m = xs.length - i ∧ i ≤ xs.length ∧
        compLoop g tt te (wipeS s vs) (xs.drop i) acc h2 = .ok ys hend, ⟨xs.length, ?_⟩, ?_⟩
      · refine ⟨F1, μ1, h1, [], [], ?_, nD.1, nD.2, upd_same, rfl, R1.other nD.1 nD.2, by simp, Nat.zero_le _, hres⟩
        refine ⟨Le.refl, List.prefix_refl _, fun a u e _ => by rw [upd_ne (ne_of_none e hD)]; exact e, fun _ h => .inl h, fun _ _ h => .inl h, fun a e => ?_⟩
        by_cases ha : a = D
        · rw [ha]; exact hD
        · rw [upd_ne ha] at e; exact e
      · rintro i m H2 ⟨F2, μ2, h2, acc, ws, ex, nF, nμ, eD, rv, R2, rfl, hi, hrun⟩
        by_cases hlt : i < xs.length
        · right
          rw [List.drop_eq_getElem_cons hlt] at hrun
          unfold compLoop at hrun
          cases hput : g.put (.pv xs[i]) (wipeS s vs) with
          | none => simp only [hput] at hrun; cases hrun
          | some s1 =>
            simp only [hput] at hrun
            refine ⟨rw.go i H2 (ex.le.trans R2.le) hlt, fun H5 => ∃ F2 μ2 h2 acc ws, Ex F1 μ1 H1 F2 μ2 H5 ∧ F2 D = none ∧ D ∉ μ2 ∧ H5 D = some (.lst ws) ∧ RPs X.K F2 acc ws ∧ Rp X.K X.mg F2 μ2 σ H5 s h2 ∧
              compLoop g tt te (wipeS s vs) (xs.drop (i + 1)) acc h2 = .ok ys hend,
              fun H5 ⟨F5, μ5, h5, acc5, vs5, a1, a2, a3, a4, a5, a6, a7⟩ => ⟨xs.length - (i + 1), by omega, F5, μ5, h5, acc5, vs5, a1, a2, a3, a4, a5, a6, rfl, hlt, a7⟩, fun x H' hy => ?_⟩
            obtain ⟨p, F3, ep, g3, rp⟩ := rw.yld i F2 H2 x H' hlt ex.le R2.le hy
            rw [List.getElem?_eq_getElem hlt] at ep
            cases ep
            have R3 := R2.gro g3
            have nF3 : F3 D = none := by
              cases e : F3 D with
              | none => rfl
              | some o =>
                rcases g3.new D o e with z | z
                · rw [nF] at z; cases z
                · rw [eD] at z; cases z
            refine ⟨F3, μ2, _, h2, .pv xs[i], s1, R3.wipe _, rp, hput, fun σ1 R4 hw => ⟨?_, F3, μ2, s1, h2, R4, ?_⟩⟩
            · rw [hw _ hgs, wipe_wipe]
            · cases htt' : tt s1 h2 with
              | stuck => simp only [htt'] at hrun; cases hrun
              | exc cc fs hh => simp only [htt'] at hrun; cases hrun
              | ok b h3 =>
                simp only [htt'] at hrun
                refine fun F4 μ4 H4 b' ex4 R5 eb => ?_
                subst eb
                have nμ4 : D ∉ μ4 := fun hm => by
                  rcases ex4.new D hm with z | z
                  · exact nμ z
                  · rw [g3.gr _ _ eD] at z; cases z
                have nF4 : F4 D = none := by
                  cases e : F4 D with
                  | none => rfl
                  | some o =>
                    rcases ex4.newF D o e with z | z | z
                    · rw [nF3] at z; cases z
                    · rw [g3.gr _ _ eD] at z; cases z
                    · exact absurd z nμ
                have eD4 : H4 D = some (.lst ws) := ex4.keep D _ (g3.gr _ _ eD) nμ
                have ex14 : Ex F1 μ1 H1 F4 μ4 H4 := (ex.trans (Rp.ex g3)).trans ex4
                have R24 := R2.swap ((Rp.ex g3).trans ex4) R5.bare
                cases b with
                | false =>
                  rw [if_neg (by decide)]
                  dsimp only at hrun
                  exact ⟨F4, μ4, h3, acc, ws, ex14, nF4, nμ4, eD4, RPs.mono (g3.le.trans ex4.le) _ _ rv, R24, hrun⟩
                | true =>
                  rw [if_pos rfl]
                  dsimp only at hrun
                  refine ⟨F4, μ4, s1, h3, R5, ?_⟩
                  cases hte' : te s1 h3 with
                  | stuck => simp only [hte'] at hrun; cases hrun
                  | exc cc fs hh => simp only [hte'] at hrun; cases hrun
                  | ok yv h3' =>
                    simp only [hte'] at hrun
                    cases hfz : yv.frz h3' with
                    | none => simp only [hfz] at hrun; cases hrun
                    | some r =>
                      obtain ⟨q, h4⟩ := r
                      simp only [hfz] at hrun
                      by_cases hz : acc.length < sizeLine
                      · rw [if_pos hz] at hrun
                        refine fun F5 μ6 H6 v ex5 R5' rq0 => ⟨ws, ?_, ?_, ?_⟩
                        · exact ex5.keep D _ eD4 nμ4
                        · rw [← rv.length]; exact hz
                        · obtain ⟨F6, x6, R6, rq⟩ := R5'.frz1 rq0 hfz
                          have ex6 := ex5.trans x6
                          have nμ6 : D ∉ μ6 := fun hm => by
                            rcases ex6.new D hm with z | z
                            · exact nμ4 z
                            · rw [eD4] at z; cases z
                          have nF6 : F6 D = none := by
                            cases e : F6 D with
                            | none => rfl
                            | some o =>
                              rcases ex6.newF D o e with z | z | z
                              · rw [nF4] at z; cases z
                              · rw [eD4] at z; cases z
                              · exact absurd z nμ4
                          have R26 := R2.swap (((Rp.ex g3).trans ex4).trans ex6) R6.bare
                          refine ⟨F6, μ6, h4, acc ++ [q], ws ++ [v], ?_, nF6, nμ6, upd_same, ?_, R26.other nF6 nμ6, hrun⟩
                          · have e16 := ex14.trans ex6
                            refine ⟨e16.le, e16.pre, fun a u e n => ?_, e16.new, e16.newF, fun a e => ?_⟩
                            · rw [upd_ne (ne_of_none e hD)]
                              exact e16.keep a u e n
                            · by_cases ha : a = D
                              · rw [ha]; exact hD
                              · rw [upd_ne ha] at e; exact e16.dom a e
                          · exact (RPs.mono ((g3.le.trans ex4.le).trans ex6.le) _ _ rv).append ⟨v, [], rfl, rq, rfl⟩
                      · rw [if_neg hz] at hrun; cases hrun
        · left
          have hi' : i = xs.length := by omega
          subst hi'
          rw [List.drop_length] at hrun
          unfold compLoop at hrun
          cases hrun
          refine ⟨rw.stop _ H2 (ex.le.trans R2.le) (Nat.le_refl _), ?_⟩
          unfold newL at q1
          cases mt with
          | true =>
            rw [if_pos rfl] at q1
            refine q1 F2 (μ2 ++ [D]) H2 (.ref D) ⟨ex.le, ex.pre.trans (List.prefix_append _ _), ex.keep, fun a hm => ?_, ex.newF, ex.dom⟩ ?_ ⟨D, by rw [← R2.len, List.getElem?_append_right (Nat.le_refl _)]; simp, rfl⟩
            · rcases List.mem_append.mp hm with z | z
              · exact ex.new a z
              · simp at z; subst z; exact .inr hD
            · exact R2.adopt nF nμ eD rv
          | false =>
            rw [if_neg (by decide)] at q1
            have le2 : Le F2 (upd F2 D (.lst ws)) := fun a o e => by rw [upd_ne (ne_of_none e nF)]; exact e
            refine q1 (upd F2 D (.lst ws)) μ2 H2 (.ref D) ⟨ex.le.trans le2, ex.pre, ex.keep, ex.new, fun a o e => ?_, ex.dom⟩ ?_ ⟨D, ws, rfl, upd_same, RPs.mono le2 _ _ rv⟩
            · by_cases ha : a = D
              · rw [ha]; exact .inr (.inl hD)
              · rw [upd_ne ha] at e; exact ex.newF a o e
            · exact R2.freeze nμ eD
theorem s_comp (C : Cn T call k c X) {elt tg it : Expr} {ifs : List Expr} {scope : Scope} {mt : Bool} {r : EvT} {g : Tg} {tt : ME Bool} {te : ME SV} (hr : ∀ e, PE X e (tM X W (r.e c e))) (hb : blkC c.N c.sc scope (blkOwn c scope) = true)
    (hg : tgE (c.sub scope) tg = some g) (hgs : ∀ i ∈ g.slots, i ∈ (blkOwn c scope).map (·.2)) (hset : ¬ isSet it = true)
    (htt : ∀ (s : Shared) (H : Hp) (Ca : Addr) (cl : List (Str × Addr)) (fp : List Addr), PTs (X.blk s H scope (compEnvC scope cl Ca X.env) fp) ifs (tMB X (fun _ _ _ _ => False) tt))
    (hte : ∀ (s : Shared) (H : Hp) (Ca : Addr) (cl : List (Str × Addr)) (fp : List Addr), PE (X.blk s H scope (compEnvC scope cl Ca X.env) fp) elt (tM X (fun _ _ _ _ => False) te)) :
    PE X (.ListComp elt [⟨tg, it, ifs, 0⟩] scope pos) (tM X W (mComp mt ((blkOwn c scope).map (·.2)) (iterE r c it) g tt te)) := by
  have hN : X.N.Nodup := by rw [C.N]; exact C.nd
  have ok : BlkOk X.N X.env.scope scope (blkOwn c scope) := by rw [C.N, C.sc]; exact blkOk_by hb
  exact PE.weak (pe_lc (g := gT X g) C.calm hN (p_iter C hr it) ok (fun s H Ca cl fp => p_tg (C.blk hb s H Ca cl fp) hg) htt hte (foldSet hset)) fun σ H Q q => comp_read hgs q
theorem ss_setc (C : Cn T call k c X) {elt tg it : Expr} {ifs : List Expr} {scope : Scope} {mt : Bool} {r : EvT} {g : Tg} {tt : ME Bool} {te : ME SV} {y : Str} {py spos : Pos} {j : Nat} (hr : ∀ e, PE X e (tM X W (r.e c e))) (hb : blkC c.N c.sc scope (blkOwn c scope) = true)
    (hg : tgE (c.sub scope) tg = some g) (hset : ¬ isSet it = true)
    (htt : ∀ (s : Shared) (H : Hp) (Ca : Addr) (cl : List (Str × Addr)) (fp : List Addr), PTs (X.blk s H scope (compEnvC scope cl Ca X.env) fp) ifs (tMB X (fun _ _ _ _ => False) tt))
    (hte : ∀ (s : Shared) (H : Hp) (Ca : Addr) (cl : List (Str × Addr)) (fp : List Addr), PE (X.blk s H scope (compEnvC scope cl Ca X.env) fp) elt (tM X (fun _ _ _ _ => False) te))
    (hj : X.N[j]? = some y) (hyl : X.env.scope.names.lookup y = some .local) (hsw : swapsWith (.ListComp elt [⟨tg, it, ifs, 0⟩] scope pos) (some (.Name y py)) spos.line X.env = pure true) :
    PS X (.Assign [.Name y py] (.ListComp elt [⟨tg, it, ifs, 0⟩] scope pos) spos) (tAsg (tLc (tWk X W (iterE r c it)) (gT X g) (tMB X (fun _ _ _ _ => False) tt) (tM X (fun _ _ _ _ => False) te) ((blkOwn c scope).map (·.2))) (gName j)) := by
  have hN : X.N.Nodup := by rw [C.N]; exact C.nd
  have ok : BlkOk X.N X.env.scope scope (blkOwn c scope) := by rw [C.N, C.sc]; exact blkOk_by hb
  exact ps_setLc C.calm hN hj hyl hsw (p_iter C hr it) ok (fun s H Ca cl fp => p_tg (C.blk hb s H Ca cl fp) hg) htt hte (foldSet hset)
end
end Pv
/-! Pv9: all expressions. -/
namespace Pv
open PySem PySem.Spec PyProof.Rows L2
section
variable {T : Tab} {call : Str → List SV → MH → RE SV} {k : Nat}
structure Good (T : Tab) (call : Str → List SV → MH → RE SV) (k : Nat) (ev : EvT) : Prop where
  e : ∀ {c : SC} {X : Cx} {W : WX}, Cn T call k c X → Takes X W → ∀ e, PE X e (tM X W (ev.e c e))
  t : ∀ {c : SC} {X : Cx} {W : WX}, Cn T call k c X → Takes X W → ∀ e, PT X e (tMB X W (ev.t c e))
theorem pts_of {c : SC} {X : Cx} {W : WX} {r : EvT} (h : ∀ e, PT X e (tMB X W (r.t c e))) : ∀ ifs : List Expr, PTs X ifs (tMB X W (testsE r c ifs))
  | [] => ⟨fun pins s σ H Q I ⟨F, μ, s1, h1, R, q⟩ => pts_nil.run pins s σ H Q I (q F μ H true .refl R rfl)⟩
  | [e] => pts_one (h e)
  | _ :: _ :: _ => ⟨fun _ _ _ _ _ _ ⟨_, _, _, _, _, z⟩ => z.elim⟩
theorem mIteE {α β : Type} {P : Prop} [Decidable P] {X : Cx} {W : WX} {e : Expr} {m : ME SV} (h : P → PE X e (tM X W m)) : PE X e (tM X W (if P then m else mStuck)) := by
  by_cases hp : P
  · rw [if_pos hp]; exact h hp
  · rw [if_neg hp]; exact stkE
theorem mIteE' {P : Prop} [Decidable P] {X : Cx} {W : WX} {e : Expr} {m : ME SV} (h : ¬ P → PE X e (tM X W m)) : PE X e (tM X W (if P then mStuck else m)) := by
  by_cases hp : P
  · rw [if_pos hp]; exact stkE
  · rw [if_neg hp]; exact h hp
theorem good_call (r : EvT) {c : SC} {X : Cx} {W : WX} (C : Cn T call k c X) (tk : Takes X W) (hr : ∀ e, PE X e (tM X W (r.e c e))) (pos p : Pos) (f : Str) (args : List Expr) :
    PE X (.Call (.Name f p) args [] pos) (tM X W (callE T call r c pos f args)) := by
  unfold callE
  refine mIteE (α := Unit) (β := Unit) fun ⟨hg, ho, hne, hst⟩ => ?_
  cases args with
  | nil => exact absurd rfl hne
  | cons e es =>
    have hg := C.gl hg
    simp only [List.all_cons, Bool.and_eq_true, Bool.not_eq_true'] at hst
    have h1 : ¬ isStar e = true := by rw [hst.1]; decide
    have h2 : (es.all fun e => !isStar e) = true := by simpa using hst.2
    have ha := s_args hr (e :: es)
    cases hf : T.fns.lookup f with
    | some fi => exact s_call C tk hf hg ho h1 h2 ha
    | none =>
      dsimp only
      cases hb : biOf f with
      | some b => exact s_bi C hb hg ho h1 h2 ha
      | none =>
        dsimp only
        by_cases h3 : f = ("isinstance" : Str)
        · subst h3
          rw [if_pos rfl]
          exact s_isi C hg h1 h2 ha
        · rw [if_neg h3]
          by_cases h4 : f = ("list" : Str)
          · subst h4
            rw [if_pos rfl]
            exact s_list C hg h1 h2 ha
          · rw [if_neg h4]
            by_cases h5 : f = ("tuple" : Str)
            · subst h5
              rw [if_pos rfl]
              exact s_tuple C hg h1 h2 ha
            · rw [if_neg h5]
              exact stkE
theorem good_call0 {c : SC} {X : Cx} {W : WX} (C : Cn T call k c X) (tk : Takes X W) (pos p : Pos) (f : Str) : PE X (.Call (.Name f p) [] [] pos) (tM X W (call0E T call c f)) := by
  unfold call0E
  refine mIteE (α := Unit) (β := Unit) fun ⟨hg, ho⟩ => ?_
  cases hf : T.fns.lookup f with
  | some fi => exact s_call0 C tk hf (C.gl hg) ho
  | none => exact stkE
theorem good_callK (r : EvT) {c : SC} {X : Cx} {W : WX} (C : Cn T call k c X) (tk : Takes X W) (hr : ∀ e, PE X e (tM X W (r.e c e))) (pos p : Pos) (f : Str) (args : List Expr) (ks : List Keyword) :
    PE X (.Call (.Name f p) args ks pos) (tM X W (callKE T call r c f args ks)) := by
  unfold callKE
  refine mIteE (α := Unit) (β := Unit) fun ⟨hg, ho, hst⟩ => ?_
  cases hf : T.fns.lookup f with
  | some fi => exact mIteE (α := Unit) (β := Unit) fun ⟨h1, h2, h3⟩ => s_callK C tk hf (C.gl hg) ho hst h1 h2 h3 (s_args hr args) (fun e => by rw [e]; rfl) (pk_of hr ks)
  | none => exact stkE
theorem good_comp (r : EvT) (G : Good T call k r) {c : SC} {X : Cx} {W : WX} (C : Cn T call k c X) (tk : Takes X W) (elt tg it : Expr) (ifs : List Expr) (scope : Scope) (pos : Pos) :
    PE X (.ListComp elt [⟨tg, it, ifs, 0⟩] scope pos) (tM X W (if blkC c.N c.sc scope (blkOwn c scope) = true ∧ ¬ isSet it = true then (match tgE (c.sub scope) tg with
    | some g => if (g.slots.all fun i => ((blkOwn c scope).map (·.2)).contains i) = true then
        mComp (T.isMut pos) ((blkOwn c scope).map (·.2)) (iterE r c it) g (testsE r (c.sub scope) ifs) (r.e (c.sub scope) elt) else mStuck
    | none => mStuck) else mStuck)) := by
  refine mIteE (α := Unit) (β := Unit) fun ⟨hb, hs⟩ => ?_
  cases hg : tgE (c.sub scope) tg with
  | none => exact stkE
  | some g =>
    dsimp only
    refine mIteE (α := Unit) (β := Unit) fun hgs => ?_
    have hgs' : ∀ i ∈ g.slots, i ∈ (blkOwn c scope).map (·.2) := fun i hi => by
      have := List.all_eq_true.mp hgs i hi
      simpa using this
    exact s_comp C (G.e C tk) hb hg hgs' hs (fun s H Ca cl fp => pts_of (W := fun _ _ _ _ => False) (G.t (C.blk hb s H Ca cl fp) takes0) ifs) (fun s H Ca cl fp => G.e (W := fun _ _ _ _ => False) (C.blk hb s H Ca cl fp) takes0 elt)
theorem stkV {X : Cx} {W : WX} {e : Expr} : PT X e (tMB X W (tVal mStuck)) := ⟨fun _ _ _ _ _ _ ⟨_, _, _, _, _, z⟩ => z.elim⟩
theorem good_e (r : EvT) (G : Good T call k r) {c : SC} {X : Cx} {W : WX} (C : Cn T call k c X) (tk : Takes X W) (e : Expr) : PE X e (tM X W (stepE T call r c e)) := by
  have hr := G.e C tk
  have ht := G.t C tk
  have hu := Pv.Room.hu C.room
  unfold stepE
  split
  · exact s_const
  · exact s_name C
  · exact s_bin (hr _) (hr _)
  · exact s_neg (hr _)
  · exact s_not (hr _)
  · exact s_ands hr _
  · exact s_ors hr _
  · exact mIteE' fun h => s_cmp hu h (hr _) (hr _)
  · exact mIteE' fun h => s_chain hu h (hr _) (hr _) (hr _)
  · exact s_if (ht _) (hr _) (hr _)
  · exact s_tup (s_args hr _)
  · exact s_lst (s_args hr _)
  · exact s_slice hr (hr _)
  · exact mIteE (α := Unit) (β := Unit) fun h => s_idx h (hr _) (hr _)
  · exact good_call0 C tk _ _ _
  · exact good_call r C tk hr _ _ _ _
  · exact good_callK r C tk hr _ _ _ _ _
  · refine mIteE (α := Unit) (β := Unit) fun ⟨h1, h2, h3, h4⟩ => ?_
    subst h1
    exact s_append h3 h4 (by rw [h2]; decide) (hr _) (hr _)
  · exact good_comp r G C tk _ _ _ _ _ _
  · exact stkE
theorem good_t (r : EvT) (G : Good T call k r) {c : SC} {X : Cx} {W : WX} (C : Cn T call k c X) (tk : Takes X W) (e : Expr) : PT X e (tMB X W (stepT T call r c e)) := by
  have hr := G.e C tk
  have ht := G.t C tk
  have hu := Pv.Room.hu C.room
  unfold stepT
  split
  · exact (t_ands ht _).pt
  · exact (t_ors ht _).pt
  · exact t_not (ht _)
  · rename_i a ops bs pos
    unfold stepE
    split <;> first | (exact stkV) | skip
    all_goals first | contradiction | skip
    · rename_i heq
      injection heq with e1 e2 e3 e4
      subst e1 e2 e3 e4
      split
      · exact stkV
      · exact t_cmp hu (by assumption) (hr _) (hr _)
    · rename_i heq
      injection heq with e1 e2 e3 e4
      subst e1 e2 e3 e4
      split
      · exact stkV
      · exact t_chain hu (by assumption) (hr _) (hr _) (hr _)
  · exact t_tru (good_e r G C tk _) fun _ => rfl
  · exact t_tru (good_e r G C tk _) fun _ => rfl
  · exact t_tru (good_e r G C tk _) fun _ => rfl
  · exact stkT
theorem good_ev : ∀ n : Nat, Good T call k (evN T call n)
  | 0 => ⟨fun _ _ _ => stkE, fun _ _ _ => stkT⟩
  | n + 1 => ⟨fun C tk e => good_e _ (good_ev n) C tk e, fun C tk e => good_t _ (good_ev n) C tk e⟩
end
end Pv
/-! Pv10: statements. -/
namespace Pv
open PySem PySem.Spec PyProof.Rows L2
section
def AtS (K : PySem.W.Frag) (mg : Str → Option Value) (W : WX) (F : Hp) (μ : List Addr) (H : Hp) (r : RT) (D : Ends) : Prop := match r with
  | .nx s' h' => ∀ F' μ' H' σ', Ex F μ H F' μ' H' → Rp K mg F' μ' σ' H' s' h' → D.nx σ' H'
  | .brk s' h' => ∀ F' μ' H' σ', Ex F μ H F' μ' H' → Rp K mg F' μ' σ' H' s' h' → D.bk σ' H'
  | .cnt s' h' => ∀ F' μ' H' σ', Ex F μ H F' μ' H' → Rp K mg F' μ' σ' H' s' h' → D.ct σ' H'
  | .ret v h' => ∀ F' μ' H' w, Ex F μ H F' μ' H' → Rp K mg F' μ' [] H' [] h' → RS K mg F' μ' v w → D.rt w H'
  | .exc c fs s' h' => ∀ F' μ' H' σ' cls d, Ex F μ H F' μ' H' → Rp K mg F' μ' σ' H' s' h' → RX K mg F' H' c fs cls d → W cls d σ' H'
  | .stuck => False
def tS (X : Cx) (W : WX) (m : MS) : TS := fun D σ H => ∃ F μ s h, Rp X.K X.mg F μ σ H s h ∧ AtS X.K X.mg W F μ H (m s h) D
variable {X : Cx} {W : WX} {F F' H H' : Hp} {μ μ' : List Addr} {σ : L2.St} {s : Sl} {h : MH} {D : Ends}
theorem AtS.ex {r : RT} (x : AtS X.K X.mg W F μ H r D) (e : Ex F μ H F' μ' H') : AtS X.K X.mg W F' μ' H' r D := by
  cases r with
  | nx s' h' => exact fun F' μ' H' σ' e' R => x F' μ' H' σ' (e.trans e') R
  | brk s' h' => exact fun F' μ' H' σ' e' R => x F' μ' H' σ' (e.trans e') R
  | cnt s' h' => exact fun F' μ' H' σ' e' R => x F' μ' H' σ' (e.trans e') R
  | ret v h' => exact fun F' μ' H' w e' R r => x F' μ' H' w (e.trans e') R r
  | exc c fs s' h' => exact fun F' μ' H' σ' cls d e' R r => x F' μ' H' σ' cls d (e.trans e') R r
  | stuck => exact x
theorem AtS.bind {α β : Type} {rel : Hp → List Addr → α → β → Prop} {m : ME α} {k : α → MS} (x : AtS X.K X.mg W F μ H (sBind m k s h) D) :
    At X.K X.mg W rel F μ σ H s (m s h) (fun b H' => ∃ F' μ' h' a, Ex F μ H F' μ' H' ∧ Rp X.K X.mg F' μ' σ H' s h' ∧ rel F' μ' a b ∧ AtS X.K X.mg W F' μ' H' (k a s h') D) := by
  unfold sBind at x
  cases e : m s h with
  | ok a h' =>
    rw [e] at x
    exact fun F' μ' H' b ex R r => ⟨F', μ', h', a, ex, R, r, x.ex ex⟩
  | exc c fs h' =>
    rw [e] at x
    exact fun F' μ' H' cls d ex R r => x F' μ' H' σ cls d ex R r
  | stuck =>
    rw [e] at x
    exact x
theorem stkS {st : Stmt} : PS X st (tS X W (fun _ _ => .stuck)) := ⟨fun _ _ _ _ _ _ ⟨_, _, _, _, _, z⟩ => z.elim⟩
theorem stkSs {st : List Stmt} : PSs X st (tS X W (fun _ _ => .stuck)) := ⟨fun _ _ _ _ _ _ ⟨_, _, _, _, _, z⟩ => z.elim⟩
variable {T : Tab} {call : Str → List SV → MH → RE SV} {k : Nat} {c : SC} {e o i t : Expr} {pos p : Pos} {ma mb md : ME SV} {mt : ME Bool} {m n : MS}
theorem ss_ret (he : PE X e (tM X W ma)) : PS X (.Return (some e) pos) (tS X W (sRet ma)) := by
  refine PS.weak (ps_ret he) fun D σ H ⟨F, μ, s, h, R, q⟩ => ?_
  exact ⟨F, μ, s, h, R, (AtS.bind q).mono fun x H1 ⟨F1, μ1, h1, sx, e1, R1, rx, q1⟩ => q1 F1 μ1 H1 x .refl R1.bare rx⟩
theorem ss_retN : PS X (.Return none pos) (tS X W (fun _ h => .ret (.pv .non) h)) :=
  PS.weak ps_retN fun D σ H ⟨F, μ, s, h, R, q⟩ => q F μ H .non .refl R.bare rfl
theorem ss_drop (hc : isComp e = false) (he : PE X e (tM X W ma)) : PS X (.Expr e pos) (tS X W (sDrop ma)) := by
  refine PS.weak (ps_expr he (by cases e <;> first | rfl | cases hc)) fun D σ H ⟨F, μ, s, h, R, q⟩ => ?_
  exact ⟨F, μ, s, h, R, (AtS.bind q).mono fun x H1 ⟨F1, μ1, h1, sx, e1, R1, rx, q1⟩ => q1 F1 μ1 H1 σ .refl R1⟩
theorem ss_if {a b : List Stmt} (ht : PT X t (tMB X W mt)) (ha : PSs X a (tS X W m)) (hb : PSs X b (tS X W n)) : PS X (.If t a b pos) (tS X W (sIf mt m n)) := by
  refine PS.weak (ps_if ht ha hb) fun D σ H ⟨F, μ, s, h, R, q⟩ => ?_
  refine ⟨F, μ, s, h, R, (AtS.bind q).mono fun x H1 ⟨F1, μ1, h1, sx, e1, R1, rx, q1⟩ => ?_⟩
  subst rx
  cases sx with
  | true => rw [if_pos rfl] at q1 ⊢; exact ⟨F1, μ1, s, h1, R1, q1⟩
  | false => rw [if_neg (by decide)] at q1 ⊢; exact ⟨F1, μ1, s, h1, R1, q1⟩
theorem put_read {g : Tg} {D : Ends} {σ : L2.St} {H : Hp} (q : tS X W (sPut ma g) D σ H) : tM X W ma σ H (fun x H1 => gT X g x σ H1 D.nx) := by
  obtain ⟨F, μ, s, h, R, q⟩ := q
  refine ⟨F, μ, s, h, R, (AtS.bind q).mono fun x H1 ⟨F1, μ1, h1, sx, e1, R1, rx, q1⟩ => ?_⟩
  cases e : g.put sx s with
  | none => simp only [e] at q1; exact q1.elim
  | some s' =>
    simp only [e] at q1
    exact ⟨F1, μ1, s, h1, sx, s', R1, rx, e, fun σ' R' _ => q1 F1 μ1 H1 σ' .refl R'⟩
theorem gT_name {j : Nat} {x : V} {σ : L2.St} {H : Hp} {Q : L2.St → Hp → Prop} (q : gT X (.name j) x σ H Q) : gName j x σ H Q := by
  obtain ⟨F, μ, s, h, sv, s', R, rx, e, q⟩ := q
  cases e
  exact q _ (R.slot rx) fun vs hm => wipe_set (hm j (by simp [Tg.slots]))
theorem swaps_no {e : Expr} (hc : isComp e = false) {t : Option Expr} {l : Nat} {env : Env} : swapsWith e t l env = pure false := by
  cases e <;> first | rfl | cases hc
theorem swapsSole_no {e : Expr} (hc : isComp e = false) {t : Expr} {l : Nat} {env : Env} : swapsWithSole [t] e l env = pure false := by
  unfold swapsWithSole
  exact swaps_no hc
theorem ss_set (C : Cn T call k c X) {x : Str} {j : Nat} (hs : c.sto x = true) (hi : c.ix x = some j) (hc : isComp e = false) (he : PE X e (tM X W ma)) : PS X (.Assign [.Name x p] e pos) (tS X W (sPut ma (.name j))) := by
  refine PS.weak (ps_set (i := j) (by rw [C.N]; exact C.nd) (by rw [C.N]; exact ix_of hi) (sto_of C hs) he (swaps_no hc) (C.fn x hs)) fun D σ H q => ?_
  obtain ⟨F, μ, s, h, R, q⟩ := put_read q
  exact ⟨F, μ, s, h, R, q.mono fun x H1 q1 => gT_name q1⟩
theorem ss_tup (C : Cn T call k c X) {es : List Expr} {j : Nat} {g : Tg} (hg : tgE c (.Tuple es j p) = some g) (ht : isTupE e = false) (hc : isComp e = false) (he : PE X e (tM X W ma)) : PS X (.Assign [.Tuple es j p] e pos) (tS X W (sPut ma g)) := by
  refine PS.weak (ps_asg he (p_tg C hg) (swapsSole_no hc) ?_ rfl) fun D σ H q => put_read q
  cases e <;> first | rfl | cases ht
theorem ss_par (C : Cn T call k c X) {x y : Str} {px py pt p2 : Pos} {kt k2 : Nat} {a b : Expr} {i j : Nat} {ms : ME (List SV)} (hp : parOk c x y px py [a, b] = true) (hi : c.ix x = some i) (hj : c.ix y = some j) (he : PA X [a, b] (tMs X W ms)) :
    PS X (.Assign [.Tuple [.Name x px, .Name y py] kt pt] (.Tuple [a, b] k2 p2) pos) (tS X W (sPar2 i j ms)) := by
  unfold parOk at hp
  simp only [Bool.and_eq_true, Bool.not_eq_true', decide_eq_true_eq] at hp
  obtain ⟨⟨⟨⟨⟨⟨⟨h1, h2⟩, h3⟩, h4⟩, h5⟩, h6⟩, h7⟩, h8⟩ := hp
  have kx : X.env.scope.names.lookup x = some .local := by
    rw [C.sc]
    split at h2
    · assumption
    · cases h2
  have ky : X.env.scope.names.lookup y = some .local := by
    rw [C.sc]
    split at h3
    · assumption
    · cases h3
  have kk : X.env.scope.kind = .function := by
    rw [C.sc]
    split at h1
    · assumption
    · cases h1
  have hN : X.N.Nodup := by rw [C.N]; exact C.nd
  have hxi : X.N[i]? = some x := by rw [C.N]; exact ix_of hi
  have hyj : X.N[j]? = some y := by rw [C.N]; exact ix_of hj
  have hij : i ≠ j := by
    rintro rfl
    rw [hxi] at hyj
    exact h5 (Option.some.inj hyj)
  have hw : swappedStores [.Tuple [.Name x px, .Name y py] kt pt] (.Tuple [a, b] k2 p2) X.env = pure (some [x, y]) := by
    have hb : X.env.blockKind = .function := by
      unfold Env.blockKind
      rw [kk]
      rfl
    have h6' : ([a, b].any fun | .Starred .. => true | _ => false) = false := h6
    have k1 : X.env.kindOf x = some .local := kx
    have k2 : X.env.kindOf y = some .local := ky
    have e1 : (px.line == px.line) = true := by simp
    have e2 : (py.line == px.line) = true := by simp [h4]
    have hxy : (y == x) = false := by simpa using fun e => h5 e.symm
    have hd : ([x, y] : List Str).eraseDups.length = 2 := by
      simp [List.eraseDups_cons, hxy]
    unfold swappedStores
    simp only [List.length_cons, List.length_nil, hb, h6', h7, h8]
    simp [Expr.pos, k1, k2, h4, hd]
    intro hh
    exfalso
    have ha : isStar a = false ∧ isStar b = false := by simpa using h6
    rcases hh with hh | hh
    · split at hh
      · exact absurd ha.1 (by simp [isStar])
      · cases hh
    · split at hh
      · exact absurd ha.2 (by simp [isStar])
      · cases hh
  refine PS.weak (ps_par C.calm hN hxi hyj hij kx ky he hw) fun D σ H ⟨F, μ, s, h, R, q⟩ => ?_
  refine ⟨F, μ, s, h, R, (AtS.bind q).mono fun vs H1 ⟨F1, μ1, h1, sx, e1, R1, rx, q1⟩ => ?_⟩
  match sx, rx, q1 with
  | [v, w], rx, q1 =>
    obtain ⟨u1, r1, rfl, rv, u2, r2, rfl, rw', rfl⟩ := rx
    exact ⟨u1, u2, rfl, q1 F1 μ1 H1 _ .refl ((R1.slot rv).slot rw')⟩
theorem ss_sto (hp : plainIx i = true) (hc : isComp e = false) (ho : PE X o (tM X W ma)) (hi : PE X i (tM X W mb)) (he : PE X e (tM X W md)) : PS X (.Assign [.Subscript o i p] e pos) (tS X W (sSto ma mb md)) := by
  refine PS.weak (ps_asg he (pg_sub ho hi set_list (fun v => by cases i <;> first | rfl | cases hp)) (swapsSole_no hc) (by rfl) rfl) fun D σ H ⟨F, μ, s, h, R, q⟩ => ?_
  refine ⟨F, μ, s, h, R, (AtS.bind q).mono fun x H1 ⟨F1, μ1, h1, sv, e1, R1, rv, q1⟩ => ⟨F1, μ1, s, h1, R1, (AtS.bind q1).mono fun y H2 ⟨F2, μ2, h2, so, e2, R2, ro, q2⟩ => ⟨F2, μ2, s, h2, R2, (AtS.bind q2).mono fun z H3 ⟨F3, μ3, h3, si, e3, R3, ri, q3⟩ => ?_⟩⟩⟩
  cases so with
  | ref l => cases si with
    | pv pi => cases pi with
      | int j =>
        cases hf : sv.frz h3 with
        | none => simp only [hf] at q3; exact q3.elim
        | some r =>
          obtain ⟨pv, h4⟩ := r
          simp only [hf] at q3
          obtain ⟨F4, x4, R4, rp⟩ := R3.frz1 (rv.mono (e2.trans e3)) hf
          cases hx : h4[l]? with
          | none => simp only [hx] at q3; exact q3.elim
          | some o =>
            cases o with
            | dead => simp only [hx] at q3; exact q3.elim
            | lst xs =>
              simp only [hx] at q3
              cases hj : ixN xs.length j with
              | none => simp only [hj] at q3; exact q3.elim
              | some n =>
                simp only [hj] at q3
                obtain ⟨a, ha, rfl⟩ := ro
                cases ri
                have ha3 := pre_get e3.pre ha
                obtain ⟨_, vs, hv, r⟩ := R4.mt l a xs ha3 hx
                refine ⟨a, vs, j, n, rfl, rfl, hv, by rw [← r.length]; exact hj, ?_⟩
                exact q3 F4 μ3 _ σ (x4.trans (.write (List.mem_of_getElem? ha3))) (R4.write ha3 hx (r.set n rp))
      | _ => exact q3.elim
    | _ => exact q3.elim
  | _ => exact q3.elim
theorem ss_aug (C : Cn T call k c X) {x : Str} {op : Operator} {j : Nat} (ho : op = .Add ∨ op = .Sub) (hs : c.sto x = true) (hi : c.ix x = some j) (he : PE X e (tM X W ma)) : PS X (.AugAssign (.Name x p) op e pos) (tS X W (sAug op j ma)) := by
  have hN : X.N.Nodup := by rw [C.N]; exact C.nd
  have hix : X.N[j]? = some x := by rw [C.N]; exact ix_of hi
  have key : ∀ {D : Ends} {σ : L2.St} {H : Hp}, tS X W (sAug op j ma) D σ H → ∃ a : Int, σ[j]? = some (some (.int a)) ∧ tM X W ma σ H fun y H1 => ∃ b : Int, y = .int b ∧ (op = .Add → D.nx (σ.set j (some (.int (a + b)))) H1) ∧ (op = .Sub → D.nx (σ.set j (some (.int (a - b)))) H1) := by
    intro D σ H ⟨F, μ, s, h, R, q⟩
    unfold sAug at q
    split at q
    · rename_i a es
      obtain ⟨w, ew, rw⟩ := R.slots j _ es
      cases rw
      refine ⟨a, ew, F, μ, s, h, R, (AtS.bind q).mono fun y H1 ⟨F1, μ1, h1, sv, e1, R1, rv, q1⟩ => ?_⟩
      rcases ho with rfl | rfl
      · cases sv with
        | pv pv => cases pv with
          | int b =>
            cases rv
            exact ⟨b, rfl, fun _ => q1 F1 μ1 H1 _ .refl (R1.slot (v := .pv (.int (a + b))) rfl), (fun z => by cases z)⟩
          | _ => exact q1.elim
        | _ => exact q1.elim
      · cases sv with
        | pv pv => cases pv with
          | int b =>
            cases rv
            exact ⟨b, rfl, (fun z => by cases z), fun _ => q1 F1 μ1 H1 _ .refl (R1.slot (v := .pv (.int (a - b))) rfl)⟩
          | _ => exact q1.elim
        | _ => exact q1.elim
    · exact q.elim
  rcases ho with rfl | rfl
  · refine PS.weak (ps_aug hN hix (sto_of C hs) he ip_add (C.fn x hs)) fun D σ H q => ?_
    obtain ⟨a, ea, F, μ, s, h, R, q⟩ := key q
    exact ⟨_, ea, F, μ, s, h, R, q.mono fun y H1 ⟨b, eb, q1, _⟩ => ⟨a, b, rfl, eb, q1 rfl⟩⟩
  · refine PS.weak (ps_aug hN hix (sto_of C hs) he ip_sub (C.fn x hs)) fun D σ H q => ?_
    obtain ⟨a, ea, F, μ, s, h, R, q⟩ := key q
    exact ⟨_, ea, F, μ, s, h, R, q.mono fun y H1 ⟨b, eb, _, q1⟩ => ⟨a, b, rfl, eb, q1 rfl⟩⟩

/-! ### loops -/
theorem gives_at {J : It} {w : Wk} {xs : List PV} {σ' : L2.St} {s' : Sl} {h' : MH} (hw : w = .its xs ∨ ∃ l, w = .live l xs ∧ h'[l]? = some (.lst xs)) (g : Gives X.K F μ J w) (e : Ex F μ H F' μ' H') (R : Rp X.K X.mg F' μ' σ' H' s' h') :
    (∀ i, i < xs.length → J.go i H') ∧ (∀ i, xs.length ≤ i → J.stop i H') ∧ ∀ i x H2, i < xs.length → J.yld i H' x H2 → ∃ p F2, xs[i]? = some p ∧ Gro F' H' F2 H2 ∧ RP X.K F2 p x := by
  rcases hw with rfl | ⟨l, rfl, hl⟩
  · exact ⟨fun i hi => g.go i H' (e.le.trans R.le) hi, fun i hi => g.stop i H' (e.le.trans R.le) hi, fun i x H2 hi y => g.yld i F' H' x H2 hi e.le R.le y⟩
  · obtain ⟨a, ha, rfl⟩ := g
    obtain ⟨_, vs, hv, r⟩ := R.mt l a xs (pre_get e.pre ha) hl
    refine ⟨fun i hi => ?_, fun i hi => ⟨vs, SqL.of hv, by rw [← r.length]; exact hi⟩, fun i x H2 hi y => ?_⟩
    · obtain ⟨v, ev, _⟩ := r.get (List.getElem?_eq_getElem hi)
      exact ⟨vs, v, SqL.of hv, ev⟩
    · obtain ⟨rfl, y⟩ := y
      have e1 := y vs (SqL.of hv)
      obtain ⟨v, e2, rv⟩ := r.get (List.getElem?_eq_getElem hi)
      rw [e1] at e2
      cases e2
      exact ⟨_, F', List.getElem?_eq_getElem hi, .refl R.le, rv⟩
open Classical in
theorem forLoop_cons {tg : Tg} {body : MS} {l : Option Nat} {all xs : List PV} {x : PV} {s : Sl} {h : MH} : forLoop tg body l all (x :: xs) s h = if (∀ k, l = some k → h[k]? = some (.lst all)) then (match tg.put (.pv x) s with
    | none => .stuck
    | some σ1 => match body σ1 h with
      | .nx σ2 h2 => forLoop tg body l all xs σ2 h2
      | .cnt σ2 h2 => forLoop tg body l all xs σ2 h2
      | .brk σ2 h2 => .nx σ2 h2
      | r => r) else .stuck := rfl
open Classical in
theorem forLoop_nil {tg : Tg} {body : MS} {l : Option Nat} {all : List PV} {s : Sl} {h : MH} : forLoop tg body l all [] s h = if (∀ k, l = some k → h[k]? = some (.lst all)) then .nx s h else .stuck := rfl
open Classical in
theorem forLoop_step {tg : Tg} {body : MS} {l : Option Nat} {all xs : List PV} {x : PV} {s : Sl} {h : MH} (hn : forLoop tg body l all (x :: xs) s h ≠ .stuck) :
    (∀ k, l = some k → h[k]? = some (.lst all)) ∧ ∃ s1, tg.put (.pv x) s = some s1 ∧ body s1 h ≠ .stuck ∧ forLoop tg body l all (x :: xs) s h = (match body s1 h with
      | .nx σ2 h2 => forLoop tg body l all xs σ2 h2
      | .cnt σ2 h2 => forLoop tg body l all xs σ2 h2
      | .brk σ2 h2 => .nx σ2 h2
      | r => r) := by
  rw [forLoop_cons] at hn ⊢
  by_cases hc : ∀ k, l = some k → h[k]? = some (.lst all)
  · rw [if_pos hc] at hn ⊢
    refine ⟨hc, ?_⟩
    cases hp : tg.put (.pv x) s with
    | none => rw [hp] at hn; exact absurd rfl hn
    | some s1 =>
      rw [hp] at hn
      refine ⟨s1, rfl, fun hb => ?_, rfl⟩
      dsimp only at hn
      rw [hb] at hn
      exact hn rfl
  · rw [if_neg hc] at hn
    exact absurd rfl hn
open Classical in
theorem forLoop_end {tg : Tg} {body : MS} {l : Option Nat} {all : List PV} {s : Sl} {h : MH} (hn : forLoop tg body l all [] s h ≠ .stuck) :
    (∀ k, l = some k → h[k]? = some (.lst all)) ∧ forLoop tg body l all [] s h = .nx s h := by
  rw [forLoop_nil] at hn ⊢
  by_cases hc : ∀ k, l = some k → h[k]? = some (.lst all)
  · rw [if_pos hc]; exact ⟨hc, rfl⟩
  · rw [if_neg hc] at hn; exact absurd rfl hn
theorem AtS.ns {r : RT} (x : AtS X.K X.mg W F μ H r D) : r ≠ .stuck := by
  intro e
  subst e
  exact x
theorem for_core {w : Wk} {xs : List PV} {l : Option Nat} (hw : (w = .its xs ∧ l = none) ∨ ∃ k, w = .live k xs ∧ l = some k) {J : It} {tg : Tg} {body : MS} {F1 H1 : Hp} {μ1 : List Addr} {h1 : MH} (R1 : Rp X.K X.mg F1 μ1 σ H1 s h1) (g : Gives X.K F1 μ1 J w)
    (q : AtS X.K X.mg W F1 μ1 H1 (forLoop tg body l xs xs s h1) D) :
    ∃ Wv : Nat → Nat → L2.St → Hp → Prop, (∃ m, Wv 0 m σ H1) ∧ ∀ i m σ H, Wv i m σ H →
      (J.stop i H ∧ D.nx σ H) ∨ (J.go i H ∧ ∃ N : L2.St → Hp → Prop, (∀ σ' H', N σ' H' → ∃ m', m' < m ∧ Wv (i + 1) m' σ' H') ∧ ∀ x H', J.yld i H x H' → gT X tg x σ H' fun σ2 H2 => tS X W body { D with nx := N, ct := N, bk := D.nx } σ2 H2) := by
  have live : ∀ {h' : MH}, (∀ k, l = some k → h'[k]? = some (.lst xs)) → w = .its xs ∨ ∃ k, w = .live k xs ∧ h'[k]? = some (.lst xs) := fun {h'} hc => by
    rcases hw with ⟨e, _⟩ | ⟨k, e, el⟩
    · exact .inl e
    · exact .inr ⟨k, e, hc k el⟩
  refine ⟨fun i m σ H => ∃ F2 μ2 s2 h2, Ex F1 μ1 H1 F2 μ2 H ∧ Rp X.K X.mg F2 μ2 σ H s2 h2 ∧ m = xs.length - i ∧ i ≤ xs.length ∧ AtS X.K X.mg W F2 μ2 H (forLoop tg body l xs (xs.drop i) s2 h2) D,
    ⟨xs.length, F1, μ1, s, h1, .refl, R1, by simp, Nat.zero_le _, q⟩, ?_⟩
  rintro i m σ2 H2 ⟨F2, μ2, s2, h2, ex, R2, rfl, hi, q2⟩
  by_cases hlt : i < xs.length
  · right
    rw [List.drop_eq_getElem_cons hlt] at q2
    obtain ⟨hc, s3, hput, hnb, er⟩ := forLoop_step q2.ns
    rw [er] at q2
    obtain ⟨g1, g2, g3⟩ := gives_at (live hc) g ex R2
    refine ⟨g1 i hlt, fun σ' H' => ∃ F2 μ2 s2 h2, Ex F1 μ1 H1 F2 μ2 H' ∧ Rp X.K X.mg F2 μ2 σ' H' s2 h2 ∧ AtS X.K X.mg W F2 μ2 H' (forLoop tg body l xs (xs.drop (i + 1)) s2 h2) D,
      fun σ' H' ⟨F5, μ5, s5, h5, a1, a2, a3⟩ => ⟨xs.length - (i + 1), by omega, F5, μ5, s5, h5, a1, a2, rfl, hlt, a3⟩, fun x H' hy => ?_⟩
    obtain ⟨p, F3, ep, gr, rp⟩ := g3 i x H' hlt hy
    rw [List.getElem?_eq_getElem hlt] at ep
    cases ep
    have R3 := R2.gro gr
    have ex3 := ex.trans (Rp.ex gr)
    have q3 := q2.ex (Rp.ex gr)
    refine ⟨F3, μ2, s2, h2, .pv xs[i], s3, R3, rp, hput, fun σ3 R4 _ => ⟨F3, μ2, s3, h2, R4, ?_⟩⟩
    cases hb : body s3 h2 with
    | stuck => exact absurd hb hnb
    | nx s5 h5 =>
      rw [hb] at q3
      exact fun F' μ' H5 σ5 e5 R5 => ⟨F', μ', s5, h5, ex3.trans e5, R5, q3.ex e5⟩
    | cnt s5 h5 =>
      rw [hb] at q3
      exact fun F' μ' H5 σ5 e5 R5 => ⟨F', μ', s5, h5, ex3.trans e5, R5, q3.ex e5⟩
    | brk s5 h5 =>
      rw [hb] at q3
      exact q3
    | ret v h5 =>
      rw [hb] at q3
      exact q3
    | exc cc fs s5 h5 =>
      rw [hb] at q3
      exact q3
  · left
    have hi' : i = xs.length := by omega
    subst hi'
    rw [List.drop_length] at q2
    obtain ⟨hc, er⟩ := forLoop_end q2.ns
    rw [er] at q2
    obtain ⟨g1, g2, g3⟩ := gives_at (live hc) g ex R2
    exact ⟨g2 _ (Nat.le_refl _), q2 F2 μ2 H2 σ2 .refl R2⟩
theorem ss_for (C : Cn T call k c X) (hp : PassesOwn (model X.prog X.w) X.A X.env X.xe) {r : EvT} (hr : ∀ e, PE X e (tM X W (r.e c e))) {tg it : Expr} {body : List Stmt} {g : Tg} (hg : tgE c tg = some g) (hs : ¬ isSet it = true) (hb : PSs X body (tS X W m)) :
    PS X (.For tg it body [] pos) (tS X W (sFor (iterE r c it) g m)) := by
  refine PS.weak (ps_for hp C.calm (p_iter C hr it) (p_tg C hg) hb (foldSet hs)) fun D σ H ⟨F, μ, s, h, R, q⟩ => ?_
  refine ⟨F, μ, s, h, R, (AtS.bind q).mono fun J H1 ⟨F1, μ1, h1, w, e1, R1, rw, q1⟩ => ?_⟩
  cases w with
  | its xs => exact for_core (.inl ⟨rfl, rfl⟩) R1 rw q1
  | live l xs => exact for_core (.inr ⟨l, rfl, rfl⟩) R1 rw q1
theorem ss_while (hp : PassesOwn (model X.prog X.w) X.A X.env X.xe) {body : List Stmt} {n : Nat} (ht : PT X t (tMB X W mt)) (hb : PSs X body (tS X W m)) : PS X (.While t body [] pos) (tS X W (whileLoop mt m n)) := by
  refine PS.weak (ps_while hp ht hb) fun D σ H ⟨F, μ, s, h, R, q⟩ => ?_
  refine ⟨fun k σ2 H2 => ∃ F2 μ2 s2 h2, Rp X.K X.mg F2 μ2 σ2 H2 s2 h2 ∧ AtS X.K X.mg W F2 μ2 H2 (whileLoop mt m k s2 h2) D, ⟨n, F, μ, s, h, R, q⟩, ?_⟩
  rintro k σ2 H2 ⟨F2, μ2, s2, h2, R2, q2⟩
  cases k with
  | zero => exact q2.elim
  | succ k =>
    unfold whileLoop at q2
    refine ⟨F2, μ2, s2, h2, R2, ?_⟩
    cases htt : mt s2 h2 with
    | stuck => rw [htt] at q2; exact q2.elim
    | exc cc fs hh =>
      rw [htt] at q2
      exact fun F' μ' H' cls d e R' rx => q2 F' μ' H' σ2 cls d e R' rx
    | ok b h3 =>
      rw [htt] at q2
      refine fun F3 μ3 H3 b' ex3 R3 eb => ?_
      subst eb
      cases b with
      | false => exact q2 F3 μ3 H3 σ2 ex3 R3
      | true =>
        rw [if_pos rfl]
        have q3 := q2.ex ex3
        dsimp only at q3
        refine ⟨fun σ' H' => ∃ F2 μ2 s2 h2, Rp X.K X.mg F2 μ2 σ' H' s2 h2 ∧ AtS X.K X.mg W F2 μ2 H' (whileLoop mt m k s2 h2) D, fun σ' H' a => ⟨k, Nat.lt_succ_self k, a⟩, F3, μ3, s2, h3, R3, ?_⟩
        cases hb' : m s2 h3 with
        | stuck => rw [hb'] at q3; exact q3.elim
        | nx s5 h5 =>
          rw [hb'] at q3
          exact fun F' μ' H5 σ5 e5 R5 => ⟨F', μ', s5, h5, R5, q3.ex e5⟩
        | cnt s5 h5 =>
          rw [hb'] at q3
          exact fun F' μ' H5 σ5 e5 R5 => ⟨F', μ', s5, h5, R5, q3.ex e5⟩
        | brk s5 h5 =>
          rw [hb'] at q3
          exact q3
        | ret v h5 =>
          rw [hb'] at q3
          exact q3
        | exc cc fs s5 h5 =>
          rw [hb'] at q3
          exact q3
theorem sss_nil : PSs X [] (tS X W (fun σ h => .nx σ h)) := PSs.weak pss_nil fun D σ H ⟨F, μ, s, h, R, q⟩ => q F μ H σ .refl R
theorem sss_cons {st : Stmt} {r : List Stmt} (h1 : PS X st (tS X W m)) (h2 : PSs X r (tS X W n)) : PSs X (st :: r) (tS X W (sSeq m n)) := by
  refine PSs.weak (pss_cons h1 h2) fun D σ H ⟨F, μ, s, h, R, q⟩ => ?_
  refine ⟨F, μ, s, h, R, ?_⟩
  unfold sSeq at q
  cases e : m s h with
  | nx s' h' =>
    rw [e] at q
    exact fun F' μ' H' σ' ex R' => ⟨F', μ', s', h', R', q.ex ex⟩
  | brk s' h' => rw [e] at q; exact q
  | cnt s' h' => rw [e] at q; exact q
  | ret v h' => rw [e] at q; exact q
  | exc cc fs s' h' => rw [e] at q; exact q
  | stuck => rw [e] at q; exact q
end
end Pv
/-! Pv11: all statements; defs keep their promise. -/
namespace Pv
open PySem PySem.Spec PyProof.Rows L2
section
variable {T : Tab} {call : Str → List SV → MH → RE SV} {k : Nat} {c : SC} {X : Cx} {W : WX}
theorem put_stuck {g : Tg} {st : Stmt} : PS X st (tS X W (sPut mStuck g)) := ⟨fun _ _ _ _ _ _ ⟨_, _, _, _, _, z⟩ => z.elim⟩
theorem sIte {P : Prop} [Decidable P] {st : Stmt} {m : MS} (h : P → PS X st (tS X W m)) : PS X st (tS X W (if P then m else fun _ _ => .stuck)) := by
  by_cases hp : P
  · rw [if_pos hp]; exact h hp
  · rw [if_neg hp]; exact stkS
theorem sIte' {P : Prop} [Decidable P] {st : Stmt} {m : MS} (h : ¬ P → PS X st (tS X W m)) : PS X st (tS X W (if P then fun _ _ => .stuck else m)) := by
  by_cases hp : P
  · rw [if_pos hp]; exact stkS
  · rw [if_neg hp]; exact h hp
theorem good_set (r : EvT) (G : Good T call k r) (C : Cn T call k c X) (tk : Takes X W) {x : Str} {p pos : Pos} {e : Expr} {j : Nat} (hs : c.sto x = true) (hi : c.ix x = some j) (hc : isComp e = false ∨ isList1 e = true) :
    PS X (.Assign [.Name x p] e pos) (tS X W (sPut (stepE T call r c e) (.name j))) := by
  have he := good_e r G C tk e
  rcases hc with hc | hc
  · exact ss_set C hs hi hc he
  · match e, hc, he with
    | .ListComp elt [⟨tg, it, ifs, 0⟩] scope cpos, _, he =>
      have hix : X.N[j]? = some x := by rw [C.N]; exact ix_of hi
      have hN : X.N.Nodup := by rw [C.N]; exact C.nd
      obtain ⟨b, hb⟩ : ∃ b, swapsWith (.ListComp elt [⟨tg, it, ifs, 0⟩] scope cpos) (some (.Name x p)) pos.line X.env = pure b := ⟨_, rfl⟩
      cases b with
      | false =>
        refine PS.weak (ps_set hN hix (sto_of C hs) he hb (C.fn x hs)) fun D σ H q => ?_
        obtain ⟨F, μ, s, h, R, q⟩ := put_read q
        exact ⟨F, μ, s, h, R, q.mono fun x H1 q1 => gT_name q1⟩
      | true =>
        have hyl : X.env.scope.names.lookup x = some .local := by
          have hb' : (pure (X.env.blockKind == .function && X.env.kindOf x == some .local && p.line == cpos.line && !(scope.names.any fun (n, k) => n == x && (k == .local || k == .cell))) : Sem Bool) = pure true := hb
          injection hb' with hb'
          simp only [Bool.and_eq_true, beq_iff_eq] at hb'
          exact hb'.1.1.2
        show PS X _ (tS X W (sPut (if blkC c.N c.sc scope (blkOwn c scope) = true ∧ ¬ isSet it = true then (match tgE (c.sub scope) tg with
          | some g => if (g.slots.all fun i => ((blkOwn c scope).map (·.2)).contains i) = true then
              mComp (T.isMut cpos) ((blkOwn c scope).map (·.2)) (iterE r c it) g (testsE r (c.sub scope) ifs) (r.e (c.sub scope) elt) else mStuck
          | none => mStuck) else mStuck) (.name j)))
        by_cases hcond : blkC c.N c.sc scope (blkOwn c scope) = true ∧ ¬ isSet it = true
        · rw [if_pos hcond]
          cases hg : tgE (c.sub scope) tg with
          | none => exact put_stuck
          | some g =>
            dsimp only
            by_cases hgs : (g.slots.all fun i => ((blkOwn c scope).map (·.2)).contains i) = true
            · rw [if_pos hgs]
              have hgs' : ∀ i ∈ g.slots, i ∈ (blkOwn c scope).map (·.2) := fun i hi => by
                have := List.all_eq_true.mp hgs i hi
                simpa using this
              refine PS.weak (ss_setc (mt := T.isMut cpos) (W := W) C (G.e C tk) hcond.1 hg hcond.2 (fun s H Ca cl fp => pts_of (W := fun _ _ _ _ => False) (G.t (C.blk hcond.1 s H Ca cl fp) takes0) ifs) (fun s H Ca cl fp => G.e (W := fun _ _ _ _ => False) (C.blk hcond.1 s H Ca cl fp) takes0 elt) hix hyl hb) fun D σ H q => ?_
              have q1 := put_read q
              refine comp_read (mt := T.isMut cpos) hgs' ?_
              obtain ⟨F, μ, s, h, R, q⟩ := q1
              exact ⟨F, μ, s, h, R, q.mono fun x H1 q1 => gT_name q1⟩
            · rw [if_neg hgs]
              exact put_stuck
        · rw [if_neg hcond]
          exact put_stuck
theorem good_s (r : EvT) (G : Good T call k r) (C : Cn T call k c X) (tk : Takes X W) (hp : PassesOwn (model X.prog X.w) X.A X.env X.xe) {rs : List Stmt → MS} (hrs : ∀ sts, PSs X sts (tS X W (rs sts))) (st : Stmt) :
    PS X st (tS X W (stepS T ⟨stepE T call r, stepT T call r⟩ rs c st)) := by
  have he := good_e r G C tk
  have ht := good_t r G C tk
  unfold stepS
  split
  · exact ss_ret (he _)
  · exact ss_retN
  · refine sIte fun ⟨hs, hc⟩ => ?_
    rename_i x p e pos _
    cases hi : c.ix x with
    | none => exact stkS
    | some j => exact good_set r G C tk hs hi hc
  · exact sIte fun ⟨h1, h2⟩ => ss_sto h1 h2 (he _) (he _) (he _)
  · refine sIte fun h1 => ?_
    rename_i x px y py kt pt a b k2 p2 pos
    cases hi : c.ix x with
    | none => exact stkS
    | some i => cases hj : c.ix y with
      | none => exact stkS
      | some j => exact ss_par C h1 hi hj (s_args (r := ⟨stepE T call r, stepT T call r⟩) he [a, b])
  · refine sIte fun ⟨h1, h2⟩ => ?_
    rename_i es kk p e pos _ _
    cases hg : tgE c (.Tuple es kk p) with
    | none => exact stkS
    | some g => exact ss_tup C hg h1 h2 (he _)
  · refine sIte fun ⟨hs, ho⟩ => ?_
    rename_i x p op e pos _
    cases hi : c.ix x with
    | none => exact stkS
    | some j => exact ss_aug C ho hs hi (he _)
  · exact ss_if (ht _) (hrs _) (hrs _)
  · refine sIte' fun h => ?_
    rename_i tg it body pos
    cases hg : tgE c tg with
    | none => exact stkS
    | some g => exact ss_for (r := ⟨stepE T call r, stepT T call r⟩) C hp he hg h (hrs _)
  · exact ss_while hp (ht _) (hrs _)
  · exact sIte fun h => ss_drop h (he _)
  · exact PS.weak ps_pass fun D σ H ⟨F, μ, s, h, R, q⟩ => q F μ H σ .refl R
  · exact PS.weak ps_break fun D σ H ⟨F, μ, s, h, R, q⟩ => q F μ H σ .refl R
  · exact PS.weak ps_continue fun D σ H ⟨F, μ, s, h, R, q⟩ => q F μ H σ .refl R
  · exact stkS
theorem good_ss (n : Nat) (C : Cn T call k c X) (tk : Takes X W) (hp : PassesOwn (model X.prog X.w) X.A X.env X.xe) : ∀ (m : Nat) (sts : List Stmt), PSs X sts (tS X W (exN T (evN T call (n + 1)) c m sts))
  | 0, sts => stkSs
  | m + 1, sts => by
    have h := good_s (evN T call n) (good_ev n) C tk hp (good_ss n C tk hp m)
    show PSs X sts (tS X W (blkS (stepS T (evN T call (n + 1)) (exN T (evN T call (n + 1)) c m) c) sts))
    induction sts with
    | nil => exact sss_nil
    | cons st r ih => exact sss_cons (h st) ih
end
/-! ### defs -/
section
variable {T : Tab} {P : Program} {w : World} {K : PySem.W.Frag} {mg : Str → Option Value} {base : Heap}
/-- the program's facts -/
structure Gf (T : Tab) (K : PySem.W.Frag) (mg : Str → Option Value) : Prop where
  con : ∀ x v, T.consts.lookup x = some v → ∃ u w, mg x = some u ∧ RelV w u ∧ ∀ F, RP K F v w
  blt : ∀ x, x ∈ blts → mg x = none
  fns : ∀ f fi, T.fns.lookup f = some fi → ∃ a fd, mg f = some (.ref a) ∧ Binds K fd fi.ps [] ∧ (∀ n, n ∈ fi.kwn → KBn K fd fi.ps n (fi.ps.drop n) (fun us ws => us ++ ws) (fun vs zs => vs ++ zs)) ∧ (∃ x qual params dvs kws, FunD K x qual params fi.body fi.sc dvs kws a fd) ∧ FnScope fi.N fi.ps fi.sc
theorem pre_take {μ μ' : List Addr} (p : μ <+: μ') : μ'.take μ.length = μ := by
  obtain ⟨r, rfl⟩ := p
  simp
theorem Rp.take {F H : Hp} {μ' : List Addr} {σ : L2.St} {s : Sl} {h : MH} {n : Nat} (R : Rp K mg F μ' σ H s h) : Rp K mg F (μ'.take n) [] H [] (h.take n) := by
  refine ⟨R.le, by simp [R.len], R.nod.sublist (List.take_sublist _ _), fun l a xs e1 e2 => ?_, fun i v e => by simp at e, rfl, fun a ha => R.all a ((List.take_sublist _ _).subset ha)⟩
  have hl : l < n := by
    have := (List.getElem?_eq_some_iff.mp e1).1
    simp at this
    omega
  rw [List.getElem?_take_of_lt hl] at e1 e2
  exact R.mt l a xs e1 e2
theorem Ex.cut {F F' H H' : Hp} {μ μ' : List Addr} (e : Ex F μ H F' μ' H') : Ex F μ H F' μ H' := ⟨e.le, List.prefix_refl _, e.keep, fun _ h => .inl h, e.newF, e.dom⟩
theorem start_slots {N : List Str} {F : Hp} {μ : List Addr} : ∀ {as : List SV} {vs : List V}, RSs K mg F μ as vs → (startS N as).length = (L2.start N vs).length ∧ ∀ (i : Nat) (v : SV), (startS N as)[i]? = some (some v) → ∃ x, (L2.start N vs)[i]? = some (some x) ∧ RS K mg F μ v x := by
  intro as vs r
  have hl := r.length
  refine ⟨by simp [startS, L2.start, hl], fun i v e => ?_⟩
  unfold startS at e
  unfold L2.start
  have get : ∀ {as : List SV} {vs : List V} {i : Nat} {v : SV}, RSs K mg F μ as vs → as[i]? = some v → ∃ x, vs[i]? = some x ∧ RS K mg F μ v x := by
    intro as
    induction as with
    | nil => intro vs i v r e; simp at e
    | cons a as ih =>
      intro vs i v r e
      obtain ⟨x, rr, rfl, r1, r2⟩ := r
      cases i with
      | zero => simp at e; subst e; exact ⟨x, rfl, r1⟩
      | succ i => obtain ⟨y, h1, h2⟩ := ih r2 (by simpa using e); exact ⟨y, by simpa using h1, h2⟩
  by_cases hi : i < as.length
  · rw [List.getElem?_append_left (by simpa using hi), List.getElem?_map] at e
    cases ha : as[i]? with
    | none => rw [ha] at e; cases e
    | some u =>
      rw [ha] at e
      cases e
      obtain ⟨x, h1, h2⟩ := get r ha
      refine ⟨x, ?_, h2⟩
      rw [List.getElem?_append_left (by simp; omega), List.getElem?_map, h1]
      rfl
  · rw [List.getElem?_append_right (by simpa using hi)] at e
    rw [List.getElem?_replicate] at e
    split at e <;> cases e
theorem end_ok {F H : Hp} {μ : List Addr} {h : MH} {keeps : Bool} {r : RT} {Q : VK} {E : XK} (hl : μ.length = h.length) (hd : ∀ a ∈ μ, H a ≠ none)
    (q : At K mg (fun cls d _ H' => E cls d H') (RS K mg) F μ [] H [] (endR keeps h r) Q) :
    AtS K mg (fun cls d _ H' => E cls d H') F μ H r { nx := fun _ H' => Q .non H', rt := Q } := by
  have tk : ∀ {F' μ' H'}, Ex F μ H F' μ' H' → μ'.take h.length = μ := fun e => by rw [← hl]; exact pre_take e.pre
  cases r with
  | nx s' h' =>
    refine fun F' μ' H' σ' e R => q F' μ H' .non e.cut ?_ rfl
    have := R.take (n := h.length)
    rw [tk e] at this
    exact this
  | brk s' h' => exact q.elim
  | cnt s' h' => exact q.elim
  | stuck => exact q.elim
  | exc c fs s' h' =>
    refine fun F' μ' H' σ' cls d e R rx => q F' μ H' cls d e.cut ?_ rx
    have := R.take (n := h.length)
    rw [tk e] at this
    exact this
  | ret v h' =>
    refine fun F' μ' H' x e R rv => ?_
    have R' := R.take (n := h.length)
    rw [tk e] at R'
    cases v with
    | pv p => exact q F' μ H' x e.cut R' rv
    | ref l =>
      obtain ⟨a, ha, rfl⟩ := rv
      have q : At K mg (fun cls d _ H' => E cls d H') (RS K mg) F μ [] H [] (if l < h.length then .ok (.ref l) (h'.take h.length) else if keeps = true then .ok (.ref l) h' else match h'[l]? with
        | some (.lst xs) => .ok (.pv (.lst xs)) (h'.take h.length)
        | _ => .stuck) Q := q
      by_cases hlt : l < h.length
      · rw [if_pos hlt] at q
        refine q F' μ H' _ e.cut R' ⟨a, ?_, rfl⟩
        rw [← ha]
        obtain ⟨rest, rfl⟩ := e.pre
        rw [List.getElem?_append_left (by rw [hl]; exact hlt)]
      · rw [if_neg hlt] at q
        cases keeps with
        | true =>
          rw [if_pos rfl] at q
          exact q F' μ' H' _ e R ⟨a, ha, rfl⟩
        | false =>
          rw [if_neg (by decide)] at q
          cases hx : h'[l]? with
          | none => rw [hx] at q; exact q.elim
          | some o => cases o with
           | dead => rw [hx] at q; exact q.elim
           | lst xs =>
            rw [hx] at q
            obtain ⟨n, vs, hv, r⟩ := R.mt l a xs ha hx
            have hnμ : a ∉ μ := fun hm => by
              obtain ⟨j, hj⟩ := List.getElem?_of_mem hm
              have hj' := pre_get e.pre hj
              obtain ⟨p1, q1⟩ := List.getElem?_eq_some_iff.mp hj'
              obtain ⟨p2, q2⟩ := List.getElem?_eq_some_iff.mp ha
              have := (List.getElem_inj R.nod).mp (q1.trans q2.symm)
              have := (List.getElem?_eq_some_iff.mp hj).1
              omega
            have hHa : H a = none := by
              rcases e.new a (List.mem_of_getElem? ha) with z | z
              · exact absurd z hnμ
              · exact z
            have le2 : Le F' (upd F' a (.lst vs)) := fun b o eb => by rw [upd_ne (ne_of_none eb n)]; exact eb
            refine q (upd F' a (.lst vs)) μ H' _ ⟨e.le.trans le2, List.prefix_refl _, e.keep, fun _ h => .inl h, fun b o eb => ?_, e.dom⟩ (R'.freeze hnμ hv n) ⟨a, vs, rfl, upd_same, RPs.mono le2 _ _ r⟩
            by_cases hb : b = a
            · rw [hb]; exact .inr (.inl hHa)
            · rw [upd_ne hb] at eb; exact e.newF b o eb
    | ty t => exact q.elim
    | cls cc => exact q.elim
    | exc cc fs => exact q.elim
theorem spM_len {call : List SV → MH → RE SV} {np : Nat} {vs : List V} {H : Hp} {Q : VK} {E : XK} (h : spM K mg call np vs H Q E) : vs.length = np := h.1
theorem _root_.L2.FunD.look {x qual : Str} {params : Arguments} {body : List Stmt} {scope : Scope} {dvs : List V} {kws : List (Str × V)} {f : Addr} {fd : FuncData} (F : FunD K x qual params body scope dvs kws f fd) :
    ∃ oc od osl, K.lookup f = some ⟨oc, od, .func fd, osl⟩ := by
  obtain ⟨oc, od, dV, kV, doc, pm, an, cdv, ct, osl, e, lk, _⟩ := F.ex
  exact ⟨oc, od, osl, lk⟩
theorem fns_ok (G : Gf T K mg) (ne ns : Nat) : ∀ (k : Nat) (f : Str) (fi : FnI), T.fns.lookup f = some fi → ∃ a fd, mg f = some (.ref a) ∧ PySem.W.keepIn K (.ref a) = true ∧ Binds K fd fi.ps [] ∧ (∀ n, n ∈ fi.kwn → KBn K fd fi.ps n (fi.ps.drop n) (fun us ws => us ++ ws) (fun vs zs => vs ++ zs)) ∧
    FnOk P w K mg base (L2.CX P w) k a fd fi.ps (spM K mg (callN T (ne + 1) ns k f) fi.ps.length) ∧ ∃ oc od osl, K.lookup a = some ⟨oc, od, .func fd, osl⟩
  | 0, f, fi, hf => by
    obtain ⟨a, fd, hm, hb, hkw, ⟨x, qual, params, dvs, kws, FD⟩, _⟩ := G.fns f fi hf
    refine ⟨a, fd, hm, FD.kp, hb, hkw, ⟨fun vs H Q E h => spM_len h, fun A outer s H args us vs Q E hr e0 hbt hv hsp => ?_⟩, FD.look⟩
    obtain ⟨_, F, μ, h, as, _, _, z⟩ := hsp
    exact z.elim
  | k + 1, f, fi, hf => by
    obtain ⟨a, fd, hm, hb, hkw, ⟨x, qual, params, dvs, kws, FD⟩, S⟩ := G.fns f fi hf
    refine ⟨a, fd, hm, FD.kp, hb, hkw, FD.ok S (fun vs H Q E h => spM_len h) fun cdv A outer s H vs Q E hr hsp => ?_, FD.look⟩
    obtain ⟨hlen, F, μ, h, as, R, rs, q⟩ := hsp
    have C : Cn T (callN T (ne + 1) ns k) k ⟨fi.N, fi.sc, none⟩ (cxOf (L2.CX P w) P w K mg base fi.N qual fi.sc a cdv A outer s H E) := {
      N := rfl
      nd := S.nd
      sc := rfl
      calm := rfl
      fn := fun x h => .inl rfl
      room := hr
      con := G.con
      blt := G.blt
      fns := fun f fi hf => by
        obtain ⟨a, fd, h1, h2, h3, h4, h5, _⟩ := fns_ok G ne ns k f fi hf
        exact ⟨a, fd, h1, h2, h3, h4, h5⟩ }
    have tk : Takes (cxOf (L2.CX P w) P w K mg base fi.N qual fi.sc a cdv A outer s H E) (fun cls d _ H' => E cls d H') := takes_of rfl rfl rfl rfl
    have hp : PassesOwn (model P w) (cxOf (L2.CX P w) P w K mg base fi.N qual fi.sc a cdv A outer s H E).A (cxOf (L2.CX P w) P w K mg base fi.N qual fi.sc a cdv A outer s H E).env (cxOf (L2.CX P w) P w K mg base fi.N qual fi.sc a cdv A outer s H E).xe := passes_of rfl
    refine ⟨_, good_ss ne C tk hp ns fi.body, F, μ, startS fi.N as, h, ?_, ?_⟩
    · obtain ⟨e1, e2⟩ := start_slots (N := fi.N) rs
      exact ⟨R.le, R.len, R.nod, R.mt, e2, e1, R.all⟩
    · refine end_ok (keeps := fi.keeps) R.len (fun b hb => ?_) ?_
      · obtain ⟨vs', e⟩ := R.all b hb
        rw [e]
        exact fun z => by cases z
      · have e : callN T (ne + 1) ns (k + 1) f as h = endR fi.keeps h (exN T (evN T (callN T (ne + 1) ns k) (ne + 1)) ⟨fi.N, fi.sc, none⟩ ns fi.body (startS fi.N as) h) := by
          show (match T.fns.lookup f with
            | some fi => endR fi.keeps h (exN T (evN T (callN T (ne + 1) ns k) (ne + 1)) ⟨fi.N, fi.sc, none⟩ ns fi.body (startS fi.N as) h)
            | none => .stuck) = _
          rw [hf]
        rw [e] at q
        exact q
end
end Pv
/-! Pv12: from the pure law to the row. -/
namespace Pv
open PySem PySem.Spec PyProof.Rows L2
/-- the scope fits the names -/
def scopeC (N ps : List Str) (sc : Scope) : Bool :=
  (match sc.kind with | .function => true | _ => false) && !sc.isCoroutine && !sc.isGenerator && decide N.Nodup && decide (N.take ps.length = ps) &&
    (ps.all fun x => match sc.names.lookup x with | some .local => true | some .cell => true | _ => false) && (sc.names.all fun y => match y.2 with | .free => false | _ => true)
theorem scopeC_ok {N ps : List Str} {sc : Scope} (h : scopeC N ps sc = true) : FnScope N ps sc := by
  unfold scopeC at h
  simp only [Bool.and_eq_true, Bool.not_eq_true', decide_eq_true_eq, List.all_eq_true] at h
  obtain ⟨⟨⟨⟨⟨⟨h1, h2⟩, h3⟩, h4⟩, h5⟩, h6⟩, h7⟩ := h
  refine ⟨?_, h2, h3, h4, h5, fun x hx => ?_, fun y hy => ?_⟩
  · split at h1
    · assumption
    · cases h1
  · have := h6 x hx
    split at this <;> first | (exact .inl (by assumption)) | (exact .inr (by assumption)) | cases this
  · have := h7 y hy
    split at this
    · cases this
    · rename_i h
      exact fun e => h e
/-- one def of the text, with what is to be known of it -/
structure Ent where
  name : Str
  params : Arguments
  body : List Stmt
  scope : Scope
  ps : List Str
  N : List Str
  keeps : Bool := false
  kwn : List Nat := []
def Ent.d (e : Ent) : He.DefD := ⟨(e.name, none), e.name, e.name, e.params, e.body, e.scope, [], []⟩
def Ent.fi (e : Ent) : Str × FnI := (e.name, { ps := e.ps, N := e.N, sc := e.scope, body := e.body, keeps := e.keeps, kwn := e.kwn })
structure Ent.Ok (e : Ent) : Prop where
  sc : scopeC e.N e.ps e.scope = true
  bind : ∀ (kV doc pm : Value) (an : Option Addr) (cdv ct : Value) (us : List Value), us.length = e.ps.length → bindArgs (PySem.W.fnOf e.name e.name e.params e.body e.scope .none kV doc pm an cdv ct) ⟨us, []⟩ = pure (e.ps.zip us)
  kw : ∀ n, n ∈ e.kwn → ∀ (kV doc pm : Value) (an : Option Addr) (cdv ct : Value) (us ws : List Value), us.length = n → ws.length = (e.ps.drop n).length → bindArgs (PySem.W.fnOf e.name e.name e.params e.body e.scope .none kV doc pm an cdv ct) ⟨us, (e.ps.drop n).zip ws⟩ = pure (e.ps.zip (us ++ ws))
/-- a constant of the text -/
inductive Kon where
  | int (x : Str) (i : Int) | str (x z : Str)
def Kon.fa : Kon → He.Fa
  | .int x i => .int x i
  | .str x z => .str x z
def Kon.c : Kon → Str × PV
  | .int x i => (x, .int i)
  | .str x z => (x, .str z)
def fasOf (es : List Ent) (ks : List Kon) : List He.Fa := es.map (fun e => He.Fa.glo e.name) ++ (blts.map He.Fa.free ++ ks.map Kon.fa)
theorem mem_look {α β : Type} [BEq α] [LawfulBEq α] {l : List (α × β)} {x : α} {v : β} (h : l.lookup x = some v) : (x, v) ∈ l := by
  induction l with
  | nil => simp at h
  | cons p l ih =>
    obtain ⟨y, w⟩ := p
    rw [List.lookup_cons] at h
    cases e : x == y with
    | true =>
      rw [e] at h
      cases h
      rw [eq_of_beq e]
      exact List.mem_cons_self
    | false =>
      rw [e] at h
      exact List.mem_cons_of_mem _ (ih h)
theorem gf_of {T : Tab} {es : List Ent} {ks : List Kon} (hf : T.fns = es.map Ent.fi) (hc : T.consts = ks.map Kon.c) (ok : ∀ e ∈ es, e.Ok) {K : PySem.W.Frag} {h : Heap} {mg : Str → Option Value} (X : K.In h) (G : h.Ns mainGlobals mg)
    (c : He.SaysD (fasOf es ks) (es.map Ent.d) K) : Gf T K mg := by
  have facts : ∀ f ∈ fasOf es ks, f.ok K = true := fun f hf => by
    obtain ⟨i, hi⟩ := List.getElem?_of_mem hf
    exact c.fact i hi
  refine ⟨fun x v hx => ?_, fun x hx => ?_, fun f fi hfi => ?_⟩
  · rw [hc] at hx
    obtain ⟨kk, hk, e⟩ := List.mem_map.mp (mem_look hx)
    have hfa := facts kk.fa (List.mem_append_right _ (List.mem_append_right _ (List.mem_map_of_mem hk)))
    cases kk with
    | int y i =>
      cases e
      obtain ⟨t, ht⟩ := He.int_ok X G hfa
      exact ⟨_, .int i, ht, ⟨t, rfl⟩, fun F => rfl⟩
    | str y z =>
      cases e
      obtain ⟨t, ht⟩ := He.str_ok X G hfa
      exact ⟨_, .str z, ht, ⟨t, rfl⟩, fun F => rfl⟩
  · exact He.free_ok X G (facts (.free x) (List.mem_append_right _ (List.mem_append_left _ (List.mem_map_of_mem hx))))
  · rw [hf] at hfi
    obtain ⟨e, he, ee⟩ := List.mem_map.mp (mem_look hfi)
    unfold Ent.fi at ee
    cases ee
    have hd : e.d ∈ es.map Ent.d := List.mem_map_of_mem he
    obtain ⟨i, hi⟩ := List.getElem?_of_mem hd
    obtain ⟨fd, FD⟩ := c.def_ i hi
    have hg := He.glo_ok X G (facts (.glo e.name) (List.mem_append_left _ (List.mem_map_of_mem (f := fun e : Ent => He.Fa.glo e.name) he)))
    refine ⟨_, fd, hg, FD.bindsN (ok e he).bind, fun n hn => ⟨fun s us ws _ l1 l2 => ?_, fun r1 r2 => r1.append r2⟩, ⟨_, _, _, _, _, FD⟩, scopeC_ok (ok e he).sc⟩
    obtain ⟨oc, od, dV, kV, doc, pm, an, cdv, ct, osl, rfl, lk, hcd, hD, hK⟩ := FD.ex
    rcases hD with ⟨_, rfl⟩ | ⟨e0, _⟩
    · exact .of_eq ((ok e he).kw n hn kV doc pm an cdv ct us ws l1 l2)
    · exact absurd rfl e0
theorem FnOk.nox {P : Program} {w : World} {K : PySem.W.Frag} {mg : Str → Option Value} {base : Heap} {k : Nat} {f : Addr} {fd : FuncData} {ps : List Str} {sp : Sp} (F : FnOk P w K mg base (L2.CX P w) k f fd ps sp) :
    FnOk P w K mg base CX0 k f fd ps (fun vs H Q _ => sp vs H Q fun _ _ _ => False) := by
  refine ⟨fun vs H Q E h => F.len _ _ _ _ h, fun A outer s H args us vs Q E hr he hb hv hsp => ?_⟩
  refine codeAny_mono (F.run A outer s H args us vs Q _ hr he hb hv hsp) fun r s' q => ?_
  cases r with
  | error e =>
    obtain ⟨_, _, _, _, _, _, _, _, _, _, _, _, z⟩ := q
    exact z.elim
  | ok f => cases f <;> exact q
/-- the promise of the law at the head's end -/
theorem law_end {T : Tab} {ne ns k : Nat} {K : PySem.W.Frag} {mg : Str → Option Value} {f : Str} (hl : ∀ xs : List Int, xs.length ≤ 63 → ∃ h', callN T (ne + 1) ns k f [.pv (.scr xs)] [] = .ok (.pv (.bl true)) h')
    (H : Hp) (a : Addr) (xs : List Int) (hn : xs.length ≤ 63) (hS : SqL K H a (xs.map V.int)) : spM K mg (callN T (ne + 1) ns k f) 1 [.ref a] H (fun v _ => v = .bl true) fun _ _ _ => False := by
  obtain ⟨h', e⟩ := hl xs hn
  refine ⟨rfl, H, [], [], [.pv (.scr xs)], ⟨Le.refl, rfl, List.nodup_nil, fun l a ys e => by simp at e, fun i v e => by simp at e, rfl, fun a ha => by simp at ha⟩, ⟨_, _, rfl, ⟨a, rfl, hS⟩, rfl⟩, ?_⟩
  rw [e]
  exact fun F' μ' H' b _ _ r => r
end Pv
/-! Pv13: reckoning with the pure reading: what a combinator gives at a state, from the left, no further than is known. -/
namespace Pv
open PySem PySem.Spec PyProof.Rows L2
section
variable {α β : Type}
def RE.bind (r : RE α) (k : α → MH → RE β) : RE β := match r with
  | .ok a h => k a h
  | .exc c fs h => .exc c fs h
  | .stuck => .stuck
def RE.st (r : RE α) (σ : Sl) (k : α → MH → RT) : RT := match r with
  | .ok a h => k a h
  | .exc c fs h => .exc c fs σ h
  | .stuck => .stuck
def RT.sq (r : RT) (k : Sl → MH → RT) : RT := match r with
  | .nx σ h => k σ h
  | r => r
/-- behind a loop's turn -/
def RT.lp (r : RT) (k : Sl → MH → RT) : RT := match r with
  | .nx σ h => k σ h
  | .cnt σ h => k σ h
  | .brk σ h => .nx σ h
  | r => r
@[simp] theorem bind_ok {a : α} {h : MH} {k : α → MH → RE β} : (RE.ok a h).bind k = k a h := Eq.trans rfl rfl
@[simp] theorem bind_exc {c fs} {h : MH} {k : α → MH → RE β} : (RE.exc c fs h : RE α).bind k = .exc c fs h := Eq.trans rfl rfl
@[simp] theorem bind_stuck {k : α → MH → RE β} : (RE.stuck : RE α).bind k = .stuck := Eq.trans rfl rfl
@[simp] theorem st_ok {a : α} {h : MH} {σ : Sl} {k : α → MH → RT} : (RE.ok a h).st σ k = k a h := Eq.trans rfl rfl
@[simp] theorem st_exc {c fs} {h : MH} {σ : Sl} {k : α → MH → RT} : (RE.exc c fs h : RE α).st σ k = .exc c fs σ h := Eq.trans rfl rfl
@[simp] theorem st_stuck {σ : Sl} {k : α → MH → RT} : (RE.stuck : RE α).st σ k = .stuck := Eq.trans rfl rfl
@[simp] theorem sq_nx {σ : Sl} {h : MH} {k} : (RT.nx σ h).sq k = k σ h := Eq.trans rfl rfl
@[simp] theorem sq_ret {v : SV} {h : MH} {k} : (RT.ret v h).sq k = .ret v h := Eq.trans rfl rfl
@[simp] theorem sq_brk {σ : Sl} {h : MH} {k} : (RT.brk σ h).sq k = .brk σ h := Eq.trans rfl rfl
@[simp] theorem sq_cnt {σ : Sl} {h : MH} {k} : (RT.cnt σ h).sq k = .cnt σ h := Eq.trans rfl rfl
@[simp] theorem sq_exc {c fs} {σ : Sl} {h : MH} {k} : (RT.exc c fs σ h).sq k = .exc c fs σ h := Eq.trans rfl rfl
@[simp] theorem sq_stuck {k} : RT.stuck.sq k = .stuck := Eq.trans rfl rfl
@[simp] theorem lp_nx {σ : Sl} {h : MH} {k} : (RT.nx σ h).lp k = k σ h := Eq.trans rfl rfl
@[simp] theorem lp_ret {v : SV} {h : MH} {k} : (RT.ret v h).lp k = .ret v h := Eq.trans rfl rfl
@[simp] theorem lp_brk {σ : Sl} {h : MH} {k} : (RT.brk σ h).lp k = .nx σ h := Eq.trans rfl rfl
@[simp] theorem lp_cnt {σ : Sl} {h : MH} {k} : (RT.cnt σ h).lp k = k σ h := Eq.trans rfl rfl
@[simp] theorem lp_exc {c fs} {σ : Sl} {h : MH} {k} : (RT.exc c fs σ h).lp k = .exc c fs σ h := Eq.trans rfl rfl
@[simp] theorem lp_stuck {k} : RT.stuck.lp k = .stuck := Eq.trans rfl rfl
/-! continuations by name: what lies behind them is not looked at before its turn -/
def kB {α β : Type} (k : α → ME β) (σ : Sl) : α → MH → RE β := fun a h => k a σ h
def kS {α : Type} (k : α → MS) (σ : Sl) : α → MH → RT := fun a h => k a σ h
@[simp] theorem kB_ap {α β : Type} {k : α → ME β} {σ : Sl} {a : α} {h : MH} : kB k σ a h = k a σ h := Eq.trans rfl rfl
@[simp] theorem kS_ap {α : Type} {k : α → MS} {σ : Sl} {a : α} {h : MH} : kS k σ a h = k a σ h := Eq.trans rfl rfl
/-- one more value, then f of both -/
def k2 {γ : Type} (mb : ME γ) (σ : Sl) (f : α → γ → MH → RE β) : α → MH → RE β := fun x h => (mb σ h).bind (f x)
@[simp] theorem k2_ap {γ : Type} {mb : ME γ} {σ : Sl} {f : α → γ → MH → RE β} {x : α} {h : MH} : k2 mb σ f x h = (mb σ h).bind (f x) := Eq.trans rfl rfl
/-- a fork -/
def kF (a b : ME β) (σ : Sl) : Bool → MH → RE β := fun t h => if t = true then a σ h else b σ h
@[simp] theorem kF_ap {a b : ME β} {σ : Sl} {t : Bool} {h : MH} : kF a b σ t h = if t = true then a σ h else b σ h := Eq.trans rfl rfl
def kFS (a b : MS) (σ : Sl) : Bool → MH → RT := fun t h => if t = true then a σ h else b σ h
@[simp] theorem kFS_ap {a b : MS} {σ : Sl} {t : Bool} {h : MH} : kFS a b σ t h = if t = true then a σ h else b σ h := Eq.trans rfl rfl
variable {σ : Sl} {h : MH} {ma mb md : ME SV} {ms mk : ME (List SV)} {mt me : ME Bool} {op op2 : CmpOp}
@[simp] theorem mPure_ap {a : α} : (mPure a : ME α) σ h = .ok a h := Eq.trans rfl rfl
@[simp] theorem mStuck_ap : (mStuck : ME α) σ h = .stuck := Eq.trans rfl rfl
@[simp] theorem mBind_ap {m : ME α} {k : α → ME β} : mBind m k σ h = (m σ h).bind (kB k σ) := Eq.trans rfl rfl
@[simp] theorem sBind_ap {m : ME α} {k : α → MS} : sBind m k σ h = (m σ h).st σ (kS k σ) := Eq.trans rfl rfl
@[simp] theorem sSeq_ap {m k : MS} : sSeq m k σ h = (m σ h).sq k := Eq.trans rfl rfl
@[simp] theorem sNx_ap : sNx σ h = .nx σ h := Eq.trans rfl rfl
@[simp] theorem sBrk_ap : sBrk σ h = .brk σ h := Eq.trans rfl rfl
@[simp] theorem sCnt_ap : sCnt σ h = .cnt σ h := Eq.trans rfl rfl
@[simp] theorem sRetN_ap : sRetN σ h = .ret (.pv .non) h := Eq.trans rfl rfl
def varR (o : Option (Option SV)) (h : MH) : RE SV := match o with
  | some (some v) => .ok v h
  | _ => .stuck
@[simp] theorem varR_some {v : SV} : varR (some (some v)) h = .ok v h := Eq.trans rfl rfl
@[simp] theorem mVar_ap {i : Nat} : mVar i σ h = varR σ[i]? h := Eq.trans rfl rfl
theorem bind_assoc' {γ : Type} {r : RE α} {f : α → MH → RE β} {g : β → MH → RE γ} : (r.bind f).bind g = r.bind fun x h => (f x h).bind g := by
  cases r <;> rfl
def optR (o : Option α) (h : MH) : RE α := match o with
  | some a => .ok a h
  | none => .stuck
@[simp] theorem optR_some {a : α} : optR (some a) h = .ok a h := Eq.trans rfl rfl
@[simp] theorem optR_none : optR (none : Option α) h = .stuck := Eq.trans rfl rfl
def newR (mt : Bool) (vs : List PV) (h : MH) : RE SV := if mt = true then .ok (.ref h.length) (h ++ [.lst vs]) else .ok (.pv (.lst vs)) h
@[simp] theorem newR_true {vs : List PV} : newR true vs h = .ok (.ref h.length) (h ++ [.lst vs]) := Eq.trans rfl rfl
@[simp] theorem newR_false {vs : List PV} : newR false vs h = .ok (.pv (.lst vs)) h := Eq.trans rfl rfl
theorem newL_ap {b : Bool} {vs : List PV} : newL b vs σ h = newR b vs h := by cases b <;> rfl
/-- a value given out, a list perhaps as one that will change -/
def outR (mt : Bool) (r : Option PV) (h : MH) : RE SV := match r with
  | some (.lst vs) => newR mt vs h
  | some r => .ok (.pv r) h
  | none => .stuck
@[simp] theorem outR_lst {b : Bool} {vs : List PV} : outR b (some (.lst vs)) h = newR b vs h := Eq.trans rfl rfl
@[simp] theorem outR_int {b : Bool} {i : Int} : outR b (some (.int i)) h = .ok (.pv (.int i)) h := Eq.trans rfl rfl
@[simp] theorem outR_str {b : Bool} {i : Str} : outR b (some (.str i)) h = .ok (.pv (.str i)) h := Eq.trans rfl rfl
@[simp] theorem outR_tup {b : Bool} {i : List PV} : outR b (some (.tup i)) h = .ok (.pv (.tup i)) h := Eq.trans rfl rfl
@[simp] theorem outR_bl {b c : Bool} : outR b (some (.bl c)) h = .ok (.pv (.bl c)) h := Eq.trans rfl rfl
@[simp] theorem outR_none {b : Bool} : outR b none h = .stuck := Eq.trans rfl rfl
@[simp] def binR (mt : Bool) (op : Operator) (x y : SV) (h : MH) : RE SV := match x, y with
  | .pv a, .pv b => outR mt (binV op a b) h
  | _, _ => .stuck
@[simp] theorem mBin_ap {b : Bool} {o : Operator} : mBin b o ma mb σ h = (ma σ h).bind (k2 mb σ (binR b o)) := by
  show (ma σ h).bind _ = _
  cases ma σ h with
  | ok x h1 =>
    show (mb σ h1).bind _ = (mb σ h1).bind _
    cases mb σ h1 with
    | ok y h2 =>
      cases x <;> first | rfl | skip
      cases y <;> first | rfl | skip
      simp only [bind_ok, binR]
      rename_i a b'
      cases binV o a b' with
      | none => rfl
      | some r => cases r <;> first | rfl | exact newL_ap
    | exc _ _ _ => rfl
    | stuck => rfl
  | exc _ _ _ => rfl
  | stuck => rfl
def blR (o : Option Bool) (h : MH) : RE SV := match o with
  | some b => .ok (.pv (.bl b)) h
  | none => .stuck
@[simp] theorem blR_some {b : Bool} : blR (some b) h = .ok (.pv (.bl b)) h := Eq.trans rfl rfl
@[simp] theorem blR_none : blR none h = .stuck := Eq.trans rfl rfl
@[simp] theorem mCmp_ap : mCmp op ma mb σ h = (ma σ h).bind (k2 mb σ fun x y h => blR (cmpV op x y h) h) := by
  show (ma σ h).bind _ = _
  congr 1
  all_goals (funext x h1; show (mb σ h1).bind _ = _; congr 1)
  all_goals (funext y h2; rcases e : cmpV op x y h2 with _ | r <;> simp only [e] <;> rfl)
@[simp] theorem mChain_ap : mChain op op2 ma mb md σ h = (ma σ h).bind (k2 mb σ fun x y h => (optR (cmpV op x y h) h).bind (kF (fun σ h => (md σ h).bind fun z h => blR (cmpV op2 y z h) h) (mPure (.pv (.bl false))) σ)) := by
  show (ma σ h).bind _ = _
  congr 1
  funext x h1
  show (mb σ h1).bind _ = _
  congr 1
  funext y h2
  rcases e : cmpV op x y h2 with _ | r
  · simp only [e]; rfl
  · cases r with
    | false => simp only [e]; rfl
    | true =>
      simp only [e, optR_some, bind_ok, kF_ap, if_true]
      show (md σ h2).bind _ = _
      congr 1
      all_goals (funext z h3; rcases e2 : cmpV op2 y z h3 with _ | r <;> simp only [e2] <;> rfl)
@[simp] def negR (x : SV) (h : MH) : RE SV := match x with
  | .pv (.int i) => .ok (.pv (.int (-i))) h
  | _ => .stuck
@[simp] theorem mNeg_ap : mNeg ma σ h = (ma σ h).bind fun x h => negR x h := by
  show (ma σ h).bind _ = _
  congr 1
  funext x h1
  cases x with
  | pv v => cases v <;> rfl
  | _ => rfl
@[simp] def valR (x : SV) (h : MH) : RE Bool := match x with
  | .pv (.bl b) => .ok b h
  | _ => .stuck
@[simp] theorem tVal_ap : tVal ma σ h = (ma σ h).bind fun x h => valR x h := by
  show (ma σ h).bind _ = _
  congr 1
  funext x h1
  cases x with
  | pv v => cases v <;> rfl
  | _ => rfl
@[simp] theorem tTru_ap : tTru ma σ h = (ma σ h).bind fun x h => optR (truth x h) h := by
  show (ma σ h).bind _ = _
  congr 1
  funext x h1
  show (match truth x h1 with | some b => RE.ok b h1 | none => .stuck) = _
  cases truth x h1 <;> rfl
@[simp] theorem tNotM_ap : tNotM mt σ h = (mt σ h).bind fun b h => .ok (!b) h := Eq.trans rfl rfl
@[simp] def notR (x : SV) (h : MH) : RE SV := match x with
  | .pv (.bl b) => .ok (.pv (.bl (!b))) h
  | _ => .stuck
@[simp] theorem vNot_ap : vNot ma σ h = (ma σ h).bind fun x h => notR x h := by
  show (ma σ h).bind _ = _
  congr 1
  funext x h1
  cases x with
  | pv v => cases v <;> rfl
  | _ => rfl
@[simp] theorem tAnds_one : tAnds [mt] σ h = mt σ h := Eq.trans rfl rfl
@[simp] theorem tAnds_cons {ts : List (ME Bool)} : tAnds (mt :: me :: ts) σ h = (mt σ h).bind (kF (tAnds (me :: ts)) (mPure false) σ) := by
  show (mt σ h).bind _ = _
  congr 1
  funext b h1
  cases b <;> rfl
@[simp] theorem tOrs_one : tOrs [mt] σ h = mt σ h := Eq.trans rfl rfl
@[simp] theorem tOrs_cons {ts : List (ME Bool)} : tOrs (mt :: me :: ts) σ h = (mt σ h).bind (kF (mPure true) (tOrs (me :: ts)) σ) := by
  show (mt σ h).bind _ = _
  congr 1
  funext b h1
  cases b <;> rfl
@[simp] theorem vAnds_one : vAnds [ma] σ h = ma σ h := Eq.trans rfl rfl
@[simp] theorem vAnds_cons {ts : List (ME SV)} : vAnds (ma :: mb :: ts) σ h = ((ma σ h).bind valR).bind (kF (vAnds (mb :: ts)) (mPure (.pv (.bl false))) σ) := by
  rw [bind_assoc']
  show (ma σ h).bind _ = _
  congr 1
  funext x h1
  cases x with
  | pv v => cases v with
    | bl b => cases b <;> rfl
    | _ => rfl
  | _ => rfl
@[simp] theorem vOrs_one : vOrs [ma] σ h = ma σ h := Eq.trans rfl rfl
@[simp] theorem vOrs_cons {ts : List (ME SV)} : vOrs (ma :: mb :: ts) σ h = ((ma σ h).bind valR).bind (kF (mPure (.pv (.bl true))) (vOrs (mb :: ts)) σ) := by
  rw [bind_assoc']
  show (ma σ h).bind _ = _
  congr 1
  funext x h1
  cases x with
  | pv v => cases v with
    | bl b => cases b <;> rfl
    | _ => rfl
  | _ => rfl
@[simp] theorem mIf_ap : mIf mt ma mb σ h = (mt σ h).bind (kF ma mb σ) := by
  show (mt σ h).bind _ = _
  congr 1
  funext b h1
  cases b <;> rfl
@[simp] theorem mArgs_nil : mArgs [] σ h = .ok [] h := Eq.trans rfl rfl
@[simp] theorem mArgs_cons {ts : List (ME SV)} : mArgs (ma :: ts) σ h = (ma σ h).bind (k2 (mArgs ts) σ fun x xs h => .ok (x :: xs) h) := Eq.trans rfl rfl
def tupR (o : Option (List PV × MH)) : RE SV := match o with
  | some (vs, h) => if vs.length ≤ sizeLine then .ok (.pv (.tup vs)) h else .stuck
  | none => .stuck
@[simp] theorem tupR_some {vs : List PV} : tupR (some (vs, h)) = if vs.length ≤ sizeLine then .ok (.pv (.tup vs)) h else .stuck := Eq.trans rfl rfl
@[simp] theorem mTup_ap : mTup ms σ h = (ms σ h).bind fun xs h => tupR (frzAll h xs) := by
  show (ms σ h).bind _ = _
  congr 1
  all_goals (funext xs h1; rcases e : frzAll h1 xs with _ | r <;> simp only [e] <;> rfl)
def lstR (mt : Bool) (o : Option (List PV × MH)) : RE SV := match o with
  | some (vs, h) => if vs.length ≤ sizeLine then newR mt vs h else .stuck
  | none => .stuck
@[simp] theorem lstR_some {b : Bool} {vs : List PV} : lstR b (some (vs, h)) = if vs.length ≤ sizeLine then newR b vs h else .stuck := Eq.trans rfl rfl
@[simp] theorem mLst_ap {b : Bool} : mLst b ms σ h = (ms σ h).bind fun xs h => lstR b (frzAll h xs) := by
  show (ms σ h).bind _ = _
  congr 1
  funext xs h1
  rcases e : frzAll h1 xs with _ | r <;> simp only [e, newL_ap] <;> rfl
@[simp] def idxR (x i : SV) (h : MH) : RE SV := match x.rd h, i with
  | some v, .pv i => (optR (idxV v i) h).bind fun r h => .ok (.pv r) h
  | _, _ => .stuck
@[simp] theorem mIdx_ap : mIdx ma mb σ h = (ma σ h).bind (k2 mb σ idxR) := by
  show (ma σ h).bind _ = _
  congr 1
  funext x h1
  show (mb σ h1).bind _ = _
  congr 1
  funext y h2
  unfold idxR
  rcases e : x.rd h2 with _ | v
  · simp only [e]
  · cases y with
    | pv i =>
      simp only [e]
      rcases e2 : idxV v i with _ | r <;> simp only [e2] <;> rfl
    | _ => simp only [e]
@[simp] def partR (x : SV) (h : MH) : RE (Option Int) := match x with
  | .pv (.int i) => .ok (some i) h
  | _ => .stuck
@[simp] theorem mPart_none : mPart none σ h = .ok none h := Eq.trans rfl rfl
@[simp] theorem mPart_some : mPart (some ma) σ h = (ma σ h).bind fun x h => partR x h := by
  show (ma σ h).bind _ = _
  congr 1
  funext x h1
  cases x with
  | pv v => cases v <;> rfl
  | _ => rfl
@[simp] def sliceR (mt : Bool) (x : SV) (lo hi : Option Int) (h : MH) : RE SV := match x.rd h with
  | some v => outR mt (sliceV v lo hi) h
  | none => .stuck
@[simp] theorem mSlice_ap {b : Bool} {ml mu : Option (ME SV)} : mSlice b ma ml mu σ h = (ma σ h).bind (k2 (mPart ml) σ fun x lo h => (mPart mu σ h).bind fun hi h => sliceR b x lo hi h) := by
  show (ma σ h).bind _ = _
  congr 1
  funext x h1
  show (mPart ml σ h1).bind _ = _
  congr 1
  funext lo h2
  show (mPart mu σ h2).bind _ = _
  congr 1
  funext hi h3
  unfold sliceR
  rcases e : x.rd h3 with _ | v
  · simp only [e]
  · simp only [e]
    rcases e2 : sliceV v lo hi with _ | r
    · first | rfl | (simp only [e2]; rfl)
    · cases r <;> first | rfl | exact newL_ap
@[simp] def biR (f : Bi) (o : Option (List PV)) (h : MH) : RE SV := match o with
  | some vs => (optR (biV f vs) h).bind fun r h => .ok (.pv r) h
  | none => .stuck
@[simp] theorem mBi_ap {f : Bi} : mBi f ms σ h = (ms σ h).bind fun xs h => biR f (rds? h xs) h := by
  show (ms σ h).bind _ = _
  congr 1
  funext xs h1
  unfold biR
  rcases e : rds? h1 xs with _ | vs
  · simp only [e]
  · simp only [e]
    rcases e2 : biV f vs with _ | r <;> simp only [e2] <;> rfl
@[simp] theorem rds_nil : rds? h [] = some [] := Eq.trans rfl rfl
@[simp] theorem rds_pv {v : PV} {r : List SV} : rds? h (.pv v :: r) = (rds? h r).map (v :: ·) := by
  show (match (some v), rds? h r with | some v, some vs => some (v :: vs) | _, _ => none) = _
  cases rds? h r <;> rfl
@[simp] theorem rds_ref {l : Nat} {r : List SV} : rds? h (.ref l :: r) = ((SV.ref l).rd h).bind fun v => (rds? h r).map (v :: ·) := by
  show (match ((SV.ref l).rd h), rds? h r with | some v, some vs => some (v :: vs) | _, _ => none) = _
  cases (SV.ref l).rd h <;> cases rds? h r <;> rfl
@[simp] def listR (mt : Bool) (o : Option (List PV)) (h : MH) : RE SV := match o with
  | some [v] => (optR (items? v) h).bind fun vs h => newR mt vs h
  | _ => .stuck
@[simp] theorem mList_ap {b : Bool} : mList b ms σ h = (ms σ h).bind fun xs h => listR b (rds? h xs) h := by
  show (ms σ h).bind _ = _
  congr 1
  funext xs h1
  unfold listR
  rcases e : rds? h1 xs with _ | vs
  · simp only [e]
  · match vs, e with
    | [], e => simp only [e]
    | [v], e =>
      simp only [e, newL_ap]
      rcases e2 : items? v with _ | r <;> simp only [e2] <;> rfl
    | _ :: _ :: _, e => simp only [e]
@[simp] def tupleR (o : Option (List PV)) (h : MH) : RE SV := match o with
  | some [v] => (optR (items? v) h).bind fun vs h => .ok (.pv (.tup vs)) h
  | _ => .stuck
@[simp] theorem mTuple_ap : mTuple ms σ h = (ms σ h).bind fun xs h => tupleR (rds? h xs) h := by
  show (ms σ h).bind _ = _
  congr 1
  funext xs h1
  unfold tupleR
  rcases e : rds? h1 xs with _ | vs
  · simp only [e]
  · match vs, e with
    | [], e => simp only [e]
    | [v], e =>
      simp only [e]
      rcases e2 : items? v with _ | r <;> simp only [e2] <;> rfl
    | _ :: _ :: _, e => simp only [e]
@[simp] def isIR (xs : List SV) (h : MH) : RE SV := match xs with
  | [x, .ty t] => match x.rd h with
    | some v => .ok (.pv (.bl (isI v t))) h
    | none => .stuck
  | _ => .stuck
@[simp] theorem mIsI_ap : mIsI ms σ h = (ms σ h).bind fun xs h => isIR xs h := Eq.trans rfl rfl
@[simp] theorem mCall_ap {call : Str → List SV → MH → RE SV} {f : Str} {n : Nat} : mCall call f n ms σ h = (ms σ h).bind fun xs h => if xs.length = n then call f xs h else .stuck := Eq.trans rfl rfl
@[simp] theorem mCallK_ap {call : Str → List SV → MH → RE SV} {f : Str} {n m : Nat} : mCallK call f n m ms mk σ h = (ms σ h).bind (k2 mk σ fun xs ys h => if xs.length = n ∧ ys.length = m then call f (xs ++ ys) h else .stuck) := Eq.trans rfl rfl
@[simp] def wkR (x : SV) (h : MH) : RE Wk := match x with
  | .pv v => (optR (items? v) h).bind fun xs h => .ok (.its xs) h
  | .ref l => match h[l]? with
    | some (.lst xs) => .ok (.live l xs) h
    | _ => .stuck
  | _ => .stuck
@[simp] theorem wkV_ap : wkV ma σ h = (ma σ h).bind fun x h => wkR x h := by
  show (ma σ h).bind _ = _
  congr 1
  funext x h1
  cases x with
  | pv v => show (match items? v with | some xs => RE.ok (Wk.its xs) h1 | none => .stuck) = (optR (items? v) h1).bind fun xs h => .ok (.its xs) h; cases items? v <;> rfl
  | _ => rfl
/-! what a range takes, by a name that does not unfold -/
theorem rn1_ex : ∃ f : List SV → Option Int, f = rng1 := ⟨_, rfl⟩
theorem rn2_ex : ∃ f : List SV → Option (Int × Int), f = rng2 := ⟨_, rfl⟩
noncomputable def rn1 : List SV → Option Int := Classical.choose rn1_ex
noncomputable def rn2 : List SV → Option (Int × Int) := Classical.choose rn2_ex
theorem rn1_eq : rn1 = rng1 := Classical.choose_spec rn1_ex
theorem rn2_eq : rn2 = rng2 := Classical.choose_spec rn2_ex
/-- a bound that a range takes -/
def Sml (i : Int) : Prop := -(2 ^ 62) ≤ i ∧ i < 2 ^ 62
theorem sml_of {i : Int} (h1 : -1000000000000 ≤ i) (h2 : i ≤ 1000000000000) : Sml i := by
  unfold Sml
  omega
theorem sml_nat {n : Nat} (h : n ≤ 1000000000000) : Sml (no_index (@OfNat.ofNat Int n instOfNat)) := by
  show -(2 ^ 62) ≤ ((n : Nat) : Int) ∧ ((n : Nat) : Int) < 2 ^ 62
  omega
@[simp] theorem rn1_int {j : Int} (h : Sml j) : rn1 [.pv (.int j)] = some j := by
  rw [rn1_eq]
  exact if_pos h
@[simp] theorem rn2_int {i j : Int} (h1 : Sml i) (h2 : Sml j) : rn2 [.pv (.int i), .pv (.int j)] = some (i, j) := by
  rw [rn2_eq]
  exact if_pos ⟨h1.1, h1.2, h2.1, h2.2⟩
@[simp] theorem wkRange1_ap : wkRange1 ms σ h = (ms σ h).bind fun xs h => (optR (rn1 xs) h).bind fun j h => .ok (.its (rangeL 0 j.toNat)) h := by
  rw [rn1_eq]
  show (ms σ h).bind _ = _
  congr 1
  all_goals (funext xs h1; rcases e : rng1 xs with _ | r <;> simp only [e] <;> rfl)
@[simp] theorem wkRange2_ap : wkRange2 ms σ h = (ms σ h).bind fun xs h => (optR (rn2 xs) h).bind fun ij h => .ok (.its (rangeL ij.1 (ij.2 - ij.1).toNat)) h := by
  rw [rn2_eq]
  show (ms σ h).bind _ = _
  congr 1
  all_goals (funext xs h1; rcases e : rng2 xs with _ | r <;> simp only [e] <;> rfl)
def nxR (o : Option Sl) (h : MH) : RT := match o with
  | some σ => .nx σ h
  | none => .stuck
@[simp] theorem nxR_some : nxR (some σ) h = .nx σ h := Eq.trans rfl rfl
@[simp] theorem nxR_none : nxR none h = .stuck := Eq.trans rfl rfl
@[simp] theorem sPut_ap {tg : Tg} : sPut ma tg σ h = (ma σ h).st σ fun v h => nxR (tg.put v σ) h := by
  show (ma σ h).st σ _ = _
  congr 1
  all_goals (funext x h1; rcases e : tg.put x σ with _ | r <;> simp only [e] <;> rfl)
@[simp] theorem putAll_nil : putAll [] [] σ = some σ := Eq.trans rfl rfl
@[simp] theorem putAll_cons {i : Nat} {is : List Nat} {v : PV} {vs : List PV} : putAll (i :: is) (v :: vs) σ = putAll is vs (σ.set i (some (.pv v))) := Eq.trans rfl rfl
@[simp] theorem put_tup' {is : List Nat} {vs : List PV} : (Tg.tup is).put (.pv (.tup vs)) σ = putAll is vs σ := Eq.trans rfl rfl
@[simp] theorem put_name {i : Nat} {v : SV} : (Tg.name i).put v σ = some (σ.set i (some v)) := Eq.trans rfl rfl
def stoR (o i v : SV) (σ : Sl) (h : MH) : RT := match o, i with
  | .ref l, .pv (.int k) => match v.frz h with
    | some (v, h1) => match h1[l]? with
      | some (.lst xs) => match L2.ixN xs.length k with
        | some j => .nx σ (h1.set l (.lst (xs.set j v)))
        | none => .stuck
      | _ => .stuck
    | none => .stuck
  | _, _ => .stuck
theorem stoR_pv {l : Nat} {k : Int} {v : PV} {xs : List PV} {j : Nat} (e : h[l]? = some (.lst xs)) (ej : L2.ixN xs.length k = some j) : stoR (.ref l) (.pv (.int k)) (.pv v) σ h = .nx σ (h.set l (.lst (xs.set j v))) := by
  show (match h[l]? with
      | some (.lst xs) => (match L2.ixN xs.length k with
        | some j => RT.nx σ (h.set l (.lst (xs.set j v)))
        | none => .stuck)
      | _ => .stuck) = _
  rw [e]
  simp only [ej]
def kSto (mo mi : ME SV) (σ : Sl) : SV → MH → RT := fun v h => (mo σ h).st σ fun o h => (mi σ h).st σ fun i h => stoR o i v σ h
@[simp] theorem kSto_ap {mo mi : ME SV} {v : SV} : kSto mo mi σ v h = (mo σ h).st σ fun o h => (mi σ h).st σ fun i h => stoR o i v σ h := Eq.trans rfl rfl
@[simp] theorem sSto_ap {mo mi : ME SV} : sSto mo mi ma σ h = (ma σ h).st σ (kSto mo mi σ) := Eq.trans rfl rfl
@[simp] def augR' (op : Operator) (x y : SV) (i : Nat) (σ : Sl) (h : MH) : RT := match op, x, y with
  | .Add, .pv (.int a), .pv (.int b) => .nx (σ.set i (some (.pv (.int (a + b))))) h
  | .Sub, .pv (.int a), .pv (.int b) => .nx (σ.set i (some (.pv (.int (a - b))))) h
  | _, _, _ => .stuck
theorem sAug_ap {o : Operator} {i : Nat} {a : Int} (e : σ[i]? = some (some (.pv (.int a)))) : sAug o i ma σ h = (ma σ h).st σ fun y h => augR' o (.pv (.int a)) y i σ h := by
  unfold sAug
  rw [e]
  show (ma σ h).st σ _ = _
  congr 1
  funext y h1
  cases o <;> (cases y with
  | pv v => cases v <;> rfl
  | _ => rfl)
@[simp] def parR (i j : Nat) (vs : List SV) (σ : Sl) (h : MH) : RT := match vs with
  | [v, w] => .nx ((σ.set i (some v)).set j (some w)) h
  | _ => .stuck
@[simp] theorem sPar2_ap {i j : Nat} : sPar2 i j ms σ h = (ms σ h).st σ fun vs h => parR i j vs σ h := by
  show (ms σ h).st σ _ = _
  congr 1
@[simp] theorem sRet_ap : sRet ma σ h = (ma σ h).st σ fun v h => .ret v h := Eq.trans rfl rfl
@[simp] theorem sDrop_ap : sDrop ma σ h = (ma σ h).st σ fun _ h => .nx σ h := Eq.trans rfl rfl
@[simp] theorem sIf_ap {a b : MS} : sIf mt a b σ h = (mt σ h).st σ (kFS a b σ) := by
  show (mt σ h).st σ _ = _
  congr 1
  funext t h1
  cases t <;> rfl
def appR (l : Nat) (v : SV) (h : MH) : RE SV := match v.frz h with
  | some (v, h1) => match h1[l]? with
    | some (.lst xs) => if xs.length < sizeLine then .ok (.pv .non) (h1.set l (.lst (xs ++ [v]))) else .stuck
    | _ => .stuck
  | none => .stuck
theorem appR_pv {l : Nat} {v : PV} {xs : List PV} (e : h[l]? = some (.lst xs)) (hz : xs.length < sizeLine) : appR l (.pv v) h = .ok (.pv .non) (h.set l (.lst (xs ++ [v]))) := by
  show (match h[l]? with
    | some (.lst xs) => if xs.length < sizeLine then RE.ok (SV.pv .non) (h.set l (.lst (xs ++ [v]))) else .stuck
    | _ => .stuck) = _
  rw [e]
  simp only [if_pos hz]
theorem mAppend_ref {l : Nat} {xs : List PV} {h1 : MH} (e : ma σ h = .ok (.ref l) h1) (ex : h1[l]? = some (.lst xs)) : mAppend ma mb σ h = (mb σ h1).bind fun v h => appR l v h := by
  show (ma σ h).bind _ = _
  rw [e, bind_ok]
  show (match h1[l]? with
    | some (.lst _) => _
    | _ => RE.stuck) = _
  rw [ex]
  rfl
@[simp] theorem finR_pv {keeps : Bool} {v : PV} {h' : MH} : finR keeps (.pv v) h h' = .ok (.pv v) (h'.take h.length) := Eq.trans rfl rfl
@[simp] theorem endR_nx {keeps : Bool} {s : Sl} {h' : MH} : endR keeps h (.nx s h') = .ok (.pv .non) (h'.take h.length) := Eq.trans rfl rfl
@[simp] theorem endR_ret {keeps : Bool} {v : SV} {h' : MH} : endR keeps h (.ret v h') = finR keeps v h h' := Eq.trans rfl rfl
@[simp] theorem endR_stuck {keeps : Bool} : endR keeps h .stuck = .stuck := Eq.trans rfl rfl
@[simp] theorem take_self {γ : Type} {l : List γ} : l.take l.length = l := List.take_length
@[simp] theorem atI_lit {γ : Type} {xs : List γ} {n : Nat} : L2.atI xs (no_index (@OfNat.ofNat Int n _)) = xs[(OfNat.ofNat n : Nat)]? := by
  show L2.atI xs ((n : Nat) : Int) = xs[n]?
  unfold L2.atI L2.ixN
  by_cases hn : n < xs.length
  · rw [if_pos (by omega), if_pos (by omega)]
    simp
  · rw [if_pos (by omega), if_neg (by omega)]
    simp at hn
    simp [hn]
@[simp] theorem ixN_lit {m n : Nat} : L2.ixN m (no_index (@OfNat.ofNat Int n _)) = if n < m then some (OfNat.ofNat n) else none := by
  show L2.ixN m ((n : Nat) : Int) = if n < m then some n else none
  unfold L2.ixN
  rw [if_pos (by omega)]
  by_cases hn : n < m
  · rw [if_pos (by omega), if_pos hn]; simp
  · rw [if_neg (by omega), if_neg hn]
theorem atI_nat' {γ : Type} {xs : List γ} {n : Nat} : L2.atI xs ((n : Nat) : Int) = xs[n]? := by
  unfold L2.atI L2.ixN
  by_cases hn : n < xs.length
  · rw [if_pos (by omega), if_pos (by omega)]
    simp
  · rw [if_pos (by omega), if_neg (by omega)]
    simp at hn
    simp [hn]
theorem ixN_nat {m n : Nat} (hn : n < m) : L2.ixN m ((n : Nat) : Int) = some n := by
  unfold L2.ixN
  rw [if_pos (by omega), if_pos (by omega)]
  simp
end
section
variable {tg : Tg} {body : MS} {all xs : List PV} {x : PV} {σ : Sl} {h : MH}
/-- a loop over fixed items -/
@[simp] theorem for_nil : forLoop tg body none all [] σ h = .nx σ h := by
  rw [forLoop_nil, if_pos (fun k e => nomatch e)]
theorem for_cons {σ1 : Sl} (e : tg.put (.pv x) σ = some σ1) : forLoop tg body none all (x :: xs) σ h = (body σ1 h).lp (forLoop tg body none all xs) := by
  rw [forLoop_cons, if_pos (fun k e => nomatch e), e]
  dsimp only
  rcases e2 : body σ1 h <;> simp only [e2] <;> rfl
@[simp] theorem for_name {i : Nat} : forLoop (.name i) body none all (x :: xs) σ h = (body (σ.set i (some (.pv x))) h).lp (forLoop (.name i) body none all xs) := for_cons rfl
@[simp] noncomputable def loopW (tg : Tg) (body : MS) (w : Wk) (σ : Sl) (h : MH) : RT := match w with
  | .its xs => forLoop tg body none xs xs σ h
  | .live l xs => forLoop tg body (some l) xs xs σ h
@[simp] theorem sFor_ap {mi : ME Wk} : sFor mi tg body σ h = (mi σ h).st σ fun w h => loopW tg body w σ h := by
  show (mi σ h).st σ _ = _
  congr 1
  funext w h1
  cases w <;> rfl
end
end Pv
/-! Pv14: equality of plain values, loops by invariants, comprehensions, the laws' pool. -/
namespace Pv
open PySem PySem.Spec PyProof.Rows L2
mutual
/-- None, whole numbers, right strings, and tuples and lists of such -/
def PV.plain : PV → Bool
  | .non => true
  | .int _ => true
  | .str x => PyData.canLay0 (.str x)
  | .tup xs => PV.plains xs
  | .lst xs => PV.plains xs
  | .bl _ => false
  | .scr _ => false
def PV.plains : List PV → Bool
  | [] => true
  | x :: xs => x.plain && PV.plains xs
end
mutual
def PV.dep : PV → Nat
  | .tup xs => PV.deps xs + 1
  | .lst xs => PV.deps xs + 1
  | _ => 0
def PV.deps : List PV → Nat
  | [] => 0
  | x :: xs => max x.dep (PV.deps xs)
end
mutual
theorem plain_lay : ∀ v : PV, v.plain = true → v.data.canLay0 = true
  | .non, _ => by simp [PV.data, PyData.canLay0]
  | .int _, _ => by simp [PV.data, PyData.canLay0]
  | .str x, h => by simpa [PV.plain, PV.data] using h
  | .tup xs, h => by
    simp only [PV.plain] at h
    simp only [PV.data, PyData.canLay0]
    exact plains_lay xs h
  | .lst xs, h => by
    simp only [PV.plain] at h
    simp only [PV.data, PyData.canLay0]
    exact plains_lay xs h
  | .bl _, h => by simp [PV.plain] at h
  | .scr _, h => by simp [PV.plain] at h
theorem plains_lay : ∀ v : List PV, PV.plains v = true → PyData.canLayAll0 (PV.datas v) = true
  | [], _ => by simp [PV.datas, PyData.canLayAll0]
  | x :: xs, h => by
    simp only [PV.plains, Bool.and_eq_true] at h
    simp only [PV.datas, PyData.canLayAll0, plain_lay x h.1, plains_lay xs h.2, Bool.and_self]
end
mutual
theorem plain_dep : ∀ v : PV, v.plain = true → v.data.depth = v.dep
  | .non, _ => by simp [PV.data, PyData.depth, PV.dep]
  | .int _, _ => by simp [PV.data, PyData.depth, PV.dep]
  | .str x, h => by simp [PV.data, PyData.depth, PV.dep]
  | .tup xs, h => by
    simp only [PV.plain] at h
    simp only [PV.data, PyData.depth, PV.dep, plains_dep xs h]
  | .lst xs, h => by
    simp only [PV.plain] at h
    simp only [PV.data, PyData.depth, PV.dep, plains_dep xs h]
  | .bl _, h => by simp [PV.plain] at h
  | .scr _, h => by simp [PV.plain] at h
theorem plains_dep : ∀ v : List PV, PV.plains v = true → PyData.depthAll (PV.datas v) = PV.deps v
  | [], _ => by simp [PV.datas, PyData.depthAll, PV.deps]
  | x :: xs, h => by
    simp only [PV.plains, Bool.and_eq_true] at h
    simp only [PV.datas, PyData.depthAll, PV.deps, plain_dep x h.1, plains_dep xs h.2]
end
theorem plain_shaped {v : PV} (h : v.plain = true) (hd : v.dep ≤ 64) : SeqAt.shaped v.data = true := by
  unfold SeqAt.shaped
  rw [plain_lay v h, plain_dep v h]
  simp [hd]
mutual
theorem eqv_plain : ∀ a b : PV, a.plain = true → b.plain = true → (PyData.eqv a.data b.data = true ↔ a = b)
  | .non, b, _, hb => by cases b <;> simp_all [PV.data, PyData.eqv, PV.plain]
  | .int _, b, _, hb => by cases b <;> simp_all [PV.data, PyData.eqv, PV.plain]
  | .str x, b, _, hb => by cases b <;> simp_all [PV.data, PyData.eqv, PV.plain]
  | .tup xs, b, ha, hb => by
    simp only [PV.plain] at ha
    cases b with
    | tup ys =>
      simp only [PV.plain] at hb
      simp only [PV.data, PyData.eqv, eqvs_plain xs ys ha hb, PV.tup.injEq]
    | _ => simp_all [PV.data, PyData.eqv, PV.plain]
  | .lst xs, b, ha, hb => by
    simp only [PV.plain] at ha
    cases b with
    | lst ys =>
      simp only [PV.plain] at hb
      simp only [PV.data, PyData.eqv, eqvs_plain xs ys ha hb, PV.lst.injEq]
    | _ => simp_all [PV.data, PyData.eqv, PV.plain]
  | .bl _, _, h, _ => by simp [PV.plain] at h
  | .scr _, _, h, _ => by simp [PV.plain] at h
theorem eqvs_plain : ∀ a b : List PV, PV.plains a = true → PV.plains b = true → (PyData.eqvAll (PV.datas a) (PV.datas b) = true ↔ a = b)
  | [], [], _, _ => by simp [PV.datas, PyData.eqvAll]
  | [], _ :: _, _, _ => by simp [PV.datas, PyData.eqvAll]
  | _ :: _, [], _, _ => by simp [PV.datas, PyData.eqvAll]
  | x :: xs, y :: ys, ha, hb => by
    simp only [PV.plains, Bool.and_eq_true] at ha hb
    simp only [PV.datas, PyData.eqvAll, Bool.and_eq_true, eqv_plain x y ha.1 hb.1, eqvs_plain xs ys ha.2 hb.2, List.cons.injEq]
end
open Classical in
noncomputable def sameP (a b : PV) : Bool := decide (a = b)
theorem sameP_iff {a b : PV} : sameP a b = true ↔ a = b := by simp [sameP]
@[simp] theorem sameP_tup {a b : List PV} : sameP (.tup a) (.tup b) = sameP (.lst a) (.lst b) := by simp [sameP]
theorem sameP_self {a : PV} : sameP a a = true := by simp [sameP]
theorem sameP_ne {a b : PV} (h : a ≠ b) : sameP a b = false := by simp [sameP, h]
/-- == of two plain trees that are not too deep -/
theorem eqP_plain {a b : PV} (ha : a.plain = true) (hb : b.plain = true) (da : a.dep ≤ 64) (db : b.dep ≤ 64) : eqP a b = some (sameP a b) := by
  have key : (if SeqAt.shaped a.data && SeqAt.shaped b.data then some (PyData.eqv a.data b.data) else none) = some (sameP a b) := by
    rw [plain_shaped ha da, plain_shaped hb db]
    simp only [Bool.and_self, if_true, Option.some.injEq]
    have e := eqv_plain a b ha hb
    by_cases h : a = b
    · rw [e.2 h, sameP_iff.2 h]
    · rw [sameP_ne h]
      cases h2 : PyData.eqv a.data b.data with
      | false => rfl
      | true => exact absurd (e.1 h2) h
  cases a <;> cases b <;> first | exact key | simp [sameP]
@[simp] theorem eqP_int {i j : Int} : eqP (.int i) (.int j) = some (decide (i = j)) := by simp only [eqP]
@[simp] theorem eqP_bl {i j : Bool} : eqP (.bl i) (.bl j) = some (decide (i = j)) := by simp only [eqP]
@[simp] theorem eqP_str {i j : Str} : eqP (.str i) (.str j) = some (decide (i = j)) := by simp only [eqP]
/-- a list against the empty one -/
theorem eqP_nil {xs : List PV} (h : PV.plains xs = true) (hd : PV.deps xs ≤ 60) : eqP (.lst xs) (.lst []) = some xs.isEmpty := by
  have hx : (PV.lst xs).plain = true := by simpa only [PV.plain] using h
  have hy : (PV.lst []).plain = true := by simp only [PV.plain, PV.plains]
  have dx : (PV.lst xs).dep ≤ 64 := by simp only [PV.dep]; omega
  have dy : (PV.lst []).dep ≤ 64 := by simp only [PV.dep, PV.deps]; omega
  rw [eqP_plain hx hy dx dy]
  cases xs <;> simp [sameP]
theorem plains_all {xs : List PV} : PV.plains xs = true ↔ ∀ x ∈ xs, x.plain = true := by
  induction xs with
  | nil => simp [PV.plains]
  | cons x xs ih => simp [PV.plains, ih]
theorem deps_le {xs : List PV} {n : Nat} : PV.deps xs ≤ n ↔ ∀ x ∈ xs, x.dep ≤ n := by
  induction xs with
  | nil => simp [PV.deps]
  | cons x xs ih =>
    simp only [PV.deps, List.mem_cons, forall_eq_or_imp, ← ih]
    omega
/-! ### loops by what holds before each turn -/
section
variable {tg : Tg} {body : MS} {all : List PV} {R : SV → MH → Prop}
theorem for_rule (I : List PV → Sl → MH → Prop) (hs : ∀ x r σ h, I (x :: r) σ h → ∃ σ1, tg.put (.pv x) σ = some σ1 ∧
      ((∃ σ2 h2, (body σ1 h = .nx σ2 h2 ∨ body σ1 h = .cnt σ2 h2) ∧ I r σ2 h2) ∨ ∃ v h2, body σ1 h = .ret v h2 ∧ R v h2)) :
    ∀ xs σ h, I xs σ h → (∃ σ' h', forLoop tg body none all xs σ h = .nx σ' h' ∧ I [] σ' h') ∨ ∃ v h', forLoop tg body none all xs σ h = .ret v h' ∧ R v h' := by
  intro xs
  induction xs with
  | nil => exact fun σ h hi => .inl ⟨σ, h, for_nil, hi⟩
  | cons x r ih =>
    intro σ h hi
    obtain ⟨σ1, e1, ⟨σ2, h2, e2, hi2⟩ | ⟨v, h2, e2, hr⟩⟩ := hs x r σ h hi
    · rw [for_cons e1]
      rcases e2 with e2 | e2
      · rw [e2]; exact ih σ2 h2 hi2
      · rw [e2]; exact ih σ2 h2 hi2
    · rw [for_cons e1, e2]
      exact .inr ⟨v, h2, rfl, hr⟩
theorem for_rule' (I : List PV → Sl → MH → Prop) (hs : ∀ x r σ h, I (x :: r) σ h → ∃ σ1, tg.put (.pv x) σ = some σ1 ∧
      (∃ σ2 h2, (body σ1 h = .nx σ2 h2 ∨ body σ1 h = .cnt σ2 h2) ∧ I r σ2 h2)) :
    ∀ xs σ h, I xs σ h → (∃ σ' h', forLoop tg body none all xs σ h = .nx σ' h' ∧ I [] σ' h') := by
  intro xs σ h hi
  rcases for_rule (R := fun _ _ => False) I (fun x r σ h hi => by
    obtain ⟨σ1, e1, hx⟩ := hs x r σ h hi
    exact ⟨σ1, e1, .inl hx⟩) xs σ h hi with hx | ⟨_, _, _, hx⟩
  · exact hx
  · exact hx.elim
theorem rangeL_succ {lo : Int} {n : Nat} : rangeL lo (n + 1) = .int lo :: rangeL (lo + 1) n := by
  unfold rangeL
  rw [List.range_succ_eq_map]
  simp only [List.map_cons, List.map_map]
  congr 1
  · simp
  · apply List.map_congr_left
    intro a _
    show PV.int (lo + ((a + 1 : Nat) : Int)) = PV.int (lo + 1 + (a : Int))
    congr 1
    omega
@[simp] theorem rangeL_zero {lo : Int} : rangeL lo 0 = [] := Eq.trans rfl rfl
theorem for_range {s : Nat} (I : Nat → Sl → MH → Prop) {n : Nat} {lo : Int} (hs : ∀ i σ h, i < n → I i σ h →
      (∃ σ2 h2, (body (σ.set s (some (.pv (.int (lo + i))))) h = .nx σ2 h2 ∨ body (σ.set s (some (.pv (.int (lo + i))))) h = .cnt σ2 h2) ∧ I (i + 1) σ2 h2) ∨ ∃ v h2, body (σ.set s (some (.pv (.int (lo + i))))) h = .ret v h2 ∧ R v h2) :
    ∀ σ h, I 0 σ h → (∃ σ' h', forLoop (.name s) body none all (rangeL lo n) σ h = .nx σ' h' ∧ I n σ' h') ∨ ∃ v h', forLoop (.name s) body none all (rangeL lo n) σ h = .ret v h' ∧ R v h' := by
  have key : ∀ m i, i + m = n → ∀ σ h, I i σ h → (∃ σ' h', forLoop (.name s) body none all (rangeL (lo + i) m) σ h = .nx σ' h' ∧ I n σ' h') ∨ ∃ v h', forLoop (.name s) body none all (rangeL (lo + i) m) σ h = .ret v h' ∧ R v h' := by
    intro m
    induction m with
    | zero =>
      intro i hi σ h hI
      obtain rfl : i = n := by omega
      exact .inl ⟨σ, h, for_nil, hI⟩
    | succ m ih =>
      intro i hi σ h hI
      rw [rangeL_succ, for_name]
      have e3 : lo + (i : Int) + 1 = lo + ((i + 1 : Nat) : Int) := by push_cast; omega
      rcases hs i σ h (by omega) hI with ⟨σ2, h2, e2 | e2, hi2⟩ | ⟨v, h2, e2, hr⟩
      · rw [e2, lp_nx, e3]; exact ih (i + 1) (by omega) σ2 h2 hi2
      · rw [e2, lp_cnt, e3]; exact ih (i + 1) (by omega) σ2 h2 hi2
      · rw [e2]; exact .inr ⟨v, h2, rfl, hr⟩
  intro σ h h0
  have := key n 0 (by omega) σ h h0
  simpa using this
theorem for_range' {s : Nat} (I : Nat → Sl → MH → Prop) {n : Nat} {lo : Int} (hs : ∀ i σ h, i < n → I i σ h →
      (∃ σ2 h2, (body (σ.set s (some (.pv (.int (lo + i))))) h = .nx σ2 h2 ∨ body (σ.set s (some (.pv (.int (lo + i))))) h = .cnt σ2 h2) ∧ I (i + 1) σ2 h2)) :
    ∀ σ h, I 0 σ h → (∃ σ' h', forLoop (.name s) body none all (rangeL lo n) σ h = .nx σ' h' ∧ I n σ' h') := by
  intro σ h hi
  rcases for_range (R := fun _ _ => False) (all := all) I (fun i σ h hl hi => .inl (hs i σ h hl hi)) σ h hi with hx | ⟨_, _, _, hx⟩
  · exact hx
  · exact hx.elim
end
/-! ### comprehensions -/
def okR {α : Type} (r : RE α) : RE α := match r with
  | .ok a h => .ok a h
  | _ => .stuck
@[simp] theorem okR_ok {α : Type} {a : α} {h : MH} : okR (.ok a h) = .ok a h := Eq.trans rfl rfl
def compR (b : Bool) (vs : List Nat) (tg : Tg) (tt : ME Bool) (te : ME SV) (σ : Sl) (w : Wk) (h : MH) : RE SV := match w with
  | .its xs => (okR (compLoop tg tt te (wipeS σ vs) xs [] h)).bind fun ys h => newR b ys h
  | .live _ _ => .stuck
@[simp] theorem compR_its {b : Bool} {vs : List Nat} {tg : Tg} {tt : ME Bool} {te : ME SV} {σ : Sl} {xs : List PV} {h : MH} :
    compR b vs tg tt te σ (.its xs) h = (okR (compLoop tg tt te (wipeS σ vs) xs [] h)).bind fun ys h => newR b ys h := rfl
@[simp] theorem mComp_ap {b : Bool} {vs : List Nat} {mi : ME Wk} {tg : Tg} {tt : ME Bool} {te : ME SV} {σ : Sl} {h : MH} :
    mComp b vs mi tg tt te σ h = (mi σ h).bind (compR b vs tg tt te σ) := by
  show (mi σ h).bind _ = _
  congr 1
  funext w h1
  cases w with
  | its xs =>
    show (match compLoop tg tt te (wipeS σ vs) xs [] h1 with
      | .ok ys h' => newL b ys σ h'
      | _ => .stuck) = (okR (compLoop tg tt te (wipeS σ vs) xs [] h1)).bind _
    cases compLoop tg tt te (wipeS σ vs) xs [] h1 with
    | ok ys h' => simp [newL_ap]
    | exc _ _ _ => rfl
    | stuck => rfl
  | live _ _ => rfl
@[simp] theorem wipeS_nil {σ : Sl} : wipeS σ [] = σ := Eq.trans rfl rfl
@[simp] theorem wipeS_cons {σ : Sl} {v : Nat} {vs : List Nat} : wipeS σ (v :: vs) = (wipeS σ vs).set v none := Eq.trans rfl rfl
theorem compLoop_pure {tg : Tg} {tt : ME Bool} {te : ME SV} {σ : Sl} {h : MH} (p : PV → Bool) (f : PV → PV) : ∀ (xs acc : List PV), acc.length + xs.length ≤ sizeLine →
    (∀ x ∈ xs, ∃ σ1, tg.put (.pv x) σ = some σ1 ∧ tt σ1 h = .ok (p x) h ∧ (p x = true → te σ1 h = .ok (.pv (f x)) h)) →
    compLoop tg tt te σ xs acc h = .ok (acc ++ (xs.filter p).map f) h := by
  intro xs
  induction xs with
  | nil => intro acc _ _; simp [compLoop]
  | cons x r ih =>
    intro acc hz hx
    obtain ⟨σ1, e1, e2, e3⟩ := hx x (by simp)
    simp only [List.length_cons] at hz
    unfold compLoop
    simp only [e1, e2]
    cases hp : p x with
    | false =>
      simp only [hp]
      rw [ih acc (by omega) (fun y hy => hx y (by simp [hy]))]
      simp [hp]
    | true =>
      simp only [hp, e3 hp, SV.frz]
      rw [if_pos (by omega), ih _ (by simp; omega) (fun y hy => hx y (by simp [hy]))]
      simp [hp]
/-- a comprehension without an if -/
theorem compLoop_map {tg : Tg} {te : ME SV} {σ : Sl} {h : MH} (f : PV → PV) (xs : List PV) (hz : xs.length ≤ sizeLine)
    (hx : ∀ x ∈ xs, ∃ σ1, tg.put (.pv x) σ = some σ1 ∧ te σ1 h = .ok (.pv (f x)) h) :
    compLoop tg (mPure true) te σ xs [] h = .ok (xs.map f) h := by
  rw [compLoop_pure (fun _ => true) f xs [] (by simpa using hz) (fun x h1 => by
    obtain ⟨σ1, e1, e2⟩ := hx x h1
    exact ⟨σ1, e1, rfl, fun _ => e2⟩), List.filter_eq_self.2 (fun _ _ => rfl)]
  simp
theorem compLoop_inv {tg : Tg} {tt : ME Bool} {te : ME SV} {σ : Sl} (I : MH → Prop) (P : PV → Prop) : ∀ (xs acc : List PV) (h : MH), acc.length + xs.length ≤ sizeLine → I h →
    (∀ x ∈ xs, ∀ h, I h → ∃ σ1, tg.put (.pv x) σ = some σ1 ∧ ∃ b h1, tt σ1 h = .ok b h1 ∧ I h1 ∧ (b = true → ∃ v h2, te σ1 h1 = .ok (.pv v) h2 ∧ P v ∧ I h2)) →
    ∃ ys h', compLoop tg tt te σ xs acc h = .ok (acc ++ ys) h' ∧ I h' ∧ (∀ y ∈ ys, P y) ∧ ys.length ≤ xs.length := by
  intro xs
  induction xs with
  | nil => intro acc h _ hi _; exact ⟨[], h, by simp [compLoop], hi, by simp, by simp⟩
  | cons x r ih =>
    intro acc h hz hi hx
    simp only [List.length_cons] at hz
    obtain ⟨σ1, e1, b, h1, e2, hi1, e3⟩ := hx x (by simp) h hi
    cases b with
    | false =>
      obtain ⟨ys, h', e, hi', hp, hl⟩ := ih acc h1 (by omega) hi1 (fun y hy => hx y (by simp [hy]))
      refine ⟨ys, h', ?_, hi', hp, by simp; omega⟩
      unfold compLoop
      simp only [e1, e2]
      exact e
    | true =>
      obtain ⟨v, h2, e4, pv, hi2⟩ := e3 rfl
      obtain ⟨ys, h', e, hi', hp, hl⟩ := ih (acc ++ [v]) h2 (by simp; omega) hi2 (fun y hy => hx y (by simp [hy]))
      refine ⟨v :: ys, h', ?_, hi', ?_, by simp; omega⟩
      · unfold compLoop
        simp only [e1, e2, e4, SV.frz]
        rw [if_pos (by omega), e]
        simp
      · intro y hy
        rcases List.mem_cons.1 hy with rfl | hy
        · exact pv
        · exact hp y hy
/-! ### the laws' pool of draws -/
structure Pool where
  a : Int
  b : Int
  c : Int
  p : Nat
  cs : List Int
  ha : 0 ≤ a
def Pool.val (p : Pool) : List PV := [.int p.a, .int p.b, .int p.c, .int p.p, .lst (p.cs.map .int)]
def Pool.mo (p : Pool) : MO := .lst p.val
end Pv
namespace Hd
open PySem PySem.Spec PyProof.Rows L2 Pv
def top (i : Nat) : Stmt := PySem.Challenge.pw_tilldust_k06_worth.main.body.getD i (.Pass ⟨0, 0, 0, 0⟩)
def e_as_told : Ent := { name := "as_told", params := defArgs (top 2), body := defBody (top 2), scope := defScope (top 2), ps := ["day"], N := ["day"] }
theorem e_as_told_ok : e_as_told.Ok where
  sc := by decide +kernel
  bind := fun _ _ _ _ _ _ us hl => match us, hl with | [_], _ => rfl
  kw := fun n hn => absurd (show n ∈ ([] : List Nat) from hn) List.not_mem_nil
def e_worth_day : Ent := { name := "worth_day", params := defArgs (top 4), body := defBody (top 4), scope := defScope (top 4), ps := ["term", "history"], N := ["term", "history", "days", "day", "part"] }
theorem e_worth_day_ok : e_worth_day.Ok where
  sc := by decide +kernel
  bind := fun _ _ _ _ _ _ us hl => match us, hl with | [_, _], _ => rfl
  kw := fun n hn => absurd (show n ∈ ([] : List Nat) from hn) List.not_mem_nil
def e_worth : Ent := { name := "worth", params := defArgs (top 5), body := defBody (top 5), scope := defScope (top 5), ps := ["term", "history"], N := ["term", "history"], kwn := [0] }
theorem e_worth_ok : e_worth.Ok where
  sc := by decide +kernel
  bind := fun _ _ _ _ _ _ us hl => match us, hl with | [_, _], _ => rfl
  kw := fun n hn => by
    have hn : n ∈ ([0] : List Nat) := hn
    simp only [List.mem_cons, List.not_mem_nil, or_false] at hn
    subst hn
    exact fun _ _ _ _ _ _ us ws h1 h2 => match us, ws, h1, h2 with | [], [_, _], _, _ => rfl
def e_l_pool : Ent := { name := "_law_pool", params := defArgs (top 7), body := defBody (top 7), scope := defScope (top 7), ps := ["script"], N := ["script"], keeps := true }
theorem e_l_pool_ok : e_l_pool.Ok where
  sc := by decide +kernel
  bind := fun _ _ _ _ _ _ us hl => match us, hl with | [_], _ => rfl
  kw := fun n hn => absurd (show n ∈ ([] : List Nat) from hn) List.not_mem_nil
def e_l_draw : Ent := { name := "_law_draw", params := defArgs (top 8), body := defBody (top 8), scope := defScope (top 8), ps := ["pool", "many"], N := ["pool", "many", "cell", "digit"] }
theorem e_l_draw_ok : e_l_draw.Ok where
  sc := by decide +kernel
  bind := fun _ _ _ _ _ _ us hl => match us, hl with | [_, _], _ => rfl
  kw := fun n hn => absurd (show n ∈ ([] : List Nat) from hn) List.not_mem_nil
def e_l_pick : Ent := { name := "_law_pick", params := defArgs (top 9), body := defBody (top 9), scope := defScope (top 9), ps := ["pool", "things"], N := ["pool", "things"] }
theorem e_l_pick_ok : e_l_pick.Ok where
  sc := by decide +kernel
  bind := fun _ _ _ _ _ _ us hl => match us, hl with | [_, _], _ => rfl
  kw := fun n hn => absurd (show n ∈ ([] : List Nat) from hn) List.not_mem_nil
def e_l_same : Ent := { name := "_law_same", params := defArgs (top 10), body := defBody (top 10), scope := defScope (top 10), ps := ["got", "due"], N := ["got", "due", "k"] }
theorem e_l_same_ok : e_l_same.Ok where
  sc := by decide +kernel
  bind := fun _ _ _ _ _ _ us hl => match us, hl with | [_, _], _ => rfl
  kw := fun n hn => absurd (show n ∈ ([] : List Nat) from hn) List.not_mem_nil
def e_l_never : Ent := { name := "_law_never", params := defArgs (top 11), body := defBody (top 11), scope := defScope (top 11), ps := [], N := [] }
theorem e_l_never_ok : e_l_never.Ok where
  sc := by decide +kernel
  bind := fun _ _ _ _ _ _ us hl => match us, hl with | [], _ => rfl
  kw := fun n hn => absurd (show n ∈ ([] : List Nat) from hn) List.not_mem_nil
def e_l_day : Ent := { name := "_law_day", params := defArgs (top 12), body := defBody (top 12), scope := defScope (top 12), ps := ["number"], N := ["number"] }
theorem e_l_day_ok : e_l_day.Ok where
  sc := by decide +kernel
  bind := fun _ _ _ _ _ _ us hl => match us, hl with | [_], _ => rfl
  kw := fun n hn => absurd (show n ∈ ([] : List Nat) from hn) List.not_mem_nil
def e_l_worth : Ent := { name := "_law_worth", params := defArgs (top 13), body := defBody (top 13), scope := defScope (top 13), ps := ["term", "history"], N := ["term", "history", "rows", "part"] }
theorem e_l_worth_ok : e_l_worth.Ok where
  sc := by decide +kernel
  bind := fun _ _ _ _ _ _ us hl => match us, hl with | [_, _], _ => rfl
  kw := fun n hn => absurd (show n ∈ ([] : List Nat) from hn) List.not_mem_nil
def e_l_term : Ent := { name := "_law_term", params := defArgs (top 14), body := defBody (top 14), scope := defScope (top 14), ps := ["pool", "events", "days", "levels", "room"], N := ["pool", "events", "days", "levels", "room", "many", "parts", "k"] }
theorem e_l_term_ok : e_l_term.Ok where
  sc := by decide +kernel
  bind := fun _ _ _ _ _ _ us hl => match us, hl with | [_, _, _, _, _], _ => rfl
  kw := fun n hn => absurd (show n ∈ ([] : List Nat) from hn) List.not_mem_nil
def e_law : Ent := { name := "law", params := defArgs (top 15), body := defBody (top 15), scope := defScope (top 15), ps := ["script"], N := ["script", "pool", "turn", "events", "history", "first", "second", "one", "two", "k"] }
theorem e_law_ok : e_law.Ok where
  sc := by decide +kernel
  bind := fun _ _ _ _ _ _ us hl => match us, hl with | [_], _ => rfl
  kw := fun n hn => absurd (show n ∈ ([] : List Nat) from hn) List.not_mem_nil
def ents : List Ent := [e_as_told, e_worth_day, e_worth, e_l_pool, e_l_draw, e_l_pick, e_l_same, e_l_never, e_l_day, e_l_worth, e_l_term, e_law]
theorem ents_ok : ∀ e ∈ ents, e.Ok := by
  intro e he
  simp only [ents, List.mem_cons, List.not_mem_nil, or_false] at he
  rcases he with rfl | rfl | rfl | rfl | rfl | rfl | rfl | rfl | rfl | rfl | rfl | rfl
  · exact e_as_told_ok
  · exact e_worth_day_ok
  · exact e_worth_ok
  · exact e_l_pool_ok
  · exact e_l_draw_ok
  · exact e_l_pick_ok
  · exact e_l_same_ok
  · exact e_l_never_ok
  · exact e_l_day_ok
  · exact e_l_worth_ok
  · exact e_l_term_ok
  · exact e_law_ok
def kons : List Kon := [.int "NEVER" 1000000000000000000000000000000000000000000000000000000000000]
noncomputable def T : Tab := { fns := ents.map Ent.fi, consts := kons.map Kon.c, muts := [(18, 11, 57)], wf := 1000 }
def ne : Nat := 30
def ns : Nat := 30
def depth : Nat := 20
noncomputable def m_as_told (call : Str → List SV → MH → RE SV) : MS :=
  (sSeq (sRet (mIf (tVal (mCmp .GtE (mVar 0) (mPure (.pv (.int 1000000000000000000000000000000000000000000000000000000000000))))) (mPure (.pv .non)) (mVar 0)))
  sNx)
theorem b_as_told (call : Str → List SV → MH → RE SV) : exN T (evN T call (ne + 1)) ⟨e_as_told.N, e_as_told.scope, none⟩ ns e_as_told.body = m_as_told call := by kernel_rfl
theorem c_as_told (k : Nat) (as : List SV) (h : MH) : callN T (ne + 1) ns (k + 1) "as_told" as h = endR false h (m_as_told (callN T (ne + 1) ns k) (startS ["day"] as) h) :=
  callN_eq (fi := e_as_told.fi.2) (by kernel_rfl) (b_as_told _)
noncomputable def ce_worth_day_0 (call : Str → List SV → MH → RE SV) : ME SV := (mCall call "worth_day" 2 (mArgs [(mVar 4), (mVar 1)]))
noncomputable def m_worth_day (call : Str → List SV → MH → RE SV) : MS :=
  (sSeq (sIf (tVal (mCmp .Eq (mIdx (mVar 0) (mPure (.pv (.int 0)))) (mPure (.pv (.str "ever")))))
    (sSeq (sRet (mPure (.pv (.int 1000000000000000000000000000000000000000000000000000000000000))))
    sNx)
    sNx)
  (sSeq (sIf (tVal (mCmp .Eq (mIdx (mVar 0) (mPure (.pv (.int 0)))) (mPure (.pv (.str "after")))))
    (sSeq (sPut (mIdx (mVar 1) (mIdx (mVar 0) (mPure (.pv (.int 1))))) (.name 3))
    (sSeq (sRet (mIf (tVal (mCmp .Is (mVar 3) (mPure (.pv .non)))) (mPure (.pv (.int 1000000000000000000000000000000000000000000000000000000000000))) (mBin false .Add (mVar 3) (mIdx (mVar 0) (mPure (.pv (.int 2)))))))
    sNx))
    sNx)
  (sSeq (sPut (mComp false [4] (wkV (mSlice false (mVar 0) (some (mPure (.pv (.int 1)))) none)) (.name 4) (mPure true) (ce_worth_day_0 call)) (.name 2))
  (sSeq (sRet (mIf (tVal (mCmp .Eq (mIdx (mVar 0) (mPure (.pv (.int 0)))) (mPure (.pv (.str "latest"))))) (mBi .max (mArgs [(mVar 2)])) (mBi .min (mArgs [(mVar 2)]))))
  sNx))))
theorem b_worth_day (call : Str → List SV → MH → RE SV) : exN T (evN T call (ne + 1)) ⟨e_worth_day.N, e_worth_day.scope, none⟩ ns e_worth_day.body = m_worth_day call := by kernel_rfl
theorem c_worth_day (k : Nat) (as : List SV) (h : MH) : callN T (ne + 1) ns (k + 1) "worth_day" as h = endR false h (m_worth_day (callN T (ne + 1) ns k) (startS ["term", "history", "days", "day", "part"] as) h) :=
  callN_eq (fi := e_worth_day.fi.2) (by kernel_rfl) (b_worth_day _)
noncomputable def m_worth (call : Str → List SV → MH → RE SV) : MS :=
  (sSeq (sRet (mCall call "as_told" 1 (mArgs [(mCall call "worth_day" 2 (mArgs [(mVar 0), (mVar 1)]))])))
  sNx)
theorem b_worth (call : Str → List SV → MH → RE SV) : exN T (evN T call (ne + 1)) ⟨e_worth.N, e_worth.scope, none⟩ ns e_worth.body = m_worth call := by kernel_rfl
theorem c_worth (k : Nat) (as : List SV) (h : MH) : callN T (ne + 1) ns (k + 1) "worth" as h = endR false h (m_worth (callN T (ne + 1) ns k) (startS ["term", "history"] as) h) :=
  callN_eq (fi := e_worth.fi.2) (by kernel_rfl) (b_worth _)
noncomputable def m_l_pool (call : Str → List SV → MH → RE SV) : MS :=
  (sSeq (sRet (mLst true (mArgs [(mPure (.pv (.int 0))), (mPure (.pv (.int 0))), (mBin false .Add (mPure (.pv (.int 11))) (mBi .len (mArgs [(mVar 0)]))), (mPure (.pv (.int 0))), (mList false (mArgs [(mSlice false (mVar 0) none (some (mPure (.pv (.int 63)))))]))])))
  sNx)
theorem b_l_pool (call : Str → List SV → MH → RE SV) : exN T (evN T call (ne + 1)) ⟨e_l_pool.N, e_l_pool.scope, none⟩ ns e_l_pool.body = m_l_pool call := by kernel_rfl
theorem c_l_pool (k : Nat) (as : List SV) (h : MH) : callN T (ne + 1) ns (k + 1) "_law_pool" as h = endR true h (m_l_pool (callN T (ne + 1) ns k) (startS ["script"] as) h) :=
  callN_eq (fi := e_l_pool.fi.2) (by kernel_rfl) (b_l_pool _)
noncomputable def m_l_draw (call : Str → List SV → MH → RE SV) : MS :=
  (sSeq (sIf (tAnds [(tVal (mCmp .Eq (mIdx (mVar 0) (mPure (.pv (.int 0)))) (mPure (.pv (.int 0))))), (tVal (mCmp .Lt (mIdx (mVar 0) (mPure (.pv (.int 3)))) (mBi .len (mArgs [(mIdx (mVar 0) (mPure (.pv (.int 4))))]))))])
    (sSeq (sPut (mIdx (mIdx (mVar 0) (mPure (.pv (.int 4)))) (mIdx (mVar 0) (mPure (.pv (.int 3))))) (.name 2))
    (sSeq (sSto (mVar 0) (mPure (.pv (.int 3))) (mBin false .Add (mIdx (mVar 0) (mPure (.pv (.int 3)))) (mPure (.pv (.int 1)))))
    (sSeq (sSto (mVar 0) (mPure (.pv (.int 2))) (mBin false .Mod (mBi .int (mArgs [(mBin false .Add (mBin false .Mult (mIdx (mVar 0) (mPure (.pv (.int 2)))) (mPure (.pv (.int 31)))) (mVar 2))])) (mPure (.pv (.int 2147483647)))))
    (sSeq (sIf (tVal (mCmp .GtE (mBi .abs (mArgs [(mVar 2)])) (mBin false .Pow (mPure (.pv (.int 10))) (mPure (.pv (.int 18))))))
      (sSeq (sSto (mVar 0) (mPure (.pv (.int 0))) (mBi .abs (mArgs [(mVar 2)])))
      (sSeq (sSto (mVar 0) (mPure (.pv (.int 1))) (mPure (.pv (.int 60))))
      sNx))
      sNx)
    sNx))))
    sNx)
  (sSeq (sIf (tVal (mCmp .Gt (mIdx (mVar 0) (mPure (.pv (.int 0)))) (mPure (.pv (.int 0)))))
    (sSeq (sPut (mBin false .Mod (mBi .int (mArgs [(mIdx (mVar 0) (mPure (.pv (.int 0))))])) (mVar 1)) (.name 3))
    (sSeq (sSto (mVar 0) (mPure (.pv (.int 1))) (mBin false .Sub (mIdx (mVar 0) (mPure (.pv (.int 1)))) (mPure (.pv (.int 1)))))
    (sSeq (sSto (mVar 0) (mPure (.pv (.int 0))) (mIf (tVal (mCmp .Gt (mIdx (mVar 0) (mPure (.pv (.int 1)))) (mPure (.pv (.int 0))))) (mBin false .FloorDiv (mIdx (mVar 0) (mPure (.pv (.int 0)))) (mVar 1)) (mPure (.pv (.int 0)))))
    (sSeq (sRet (mVar 3))
    sNx))))
    sNx)
  (sSeq (sSto (mVar 0) (mPure (.pv (.int 2))) (mBin false .Mod (mBi .int (mArgs [(mBin false .Add (mBin false .Mult (mIdx (mVar 0) (mPure (.pv (.int 2)))) (mPure (.pv (.int 48271)))) (mPure (.pv (.int 12345))))])) (mPure (.pv (.int 2147483647)))))
  (sSeq (sRet (mBin false .Mod (mBi .int (mArgs [(mBin false .FloorDiv (mIdx (mVar 0) (mPure (.pv (.int 2)))) (mPure (.pv (.int 11))))])) (mVar 1)))
  sNx))))
theorem b_l_draw (call : Str → List SV → MH → RE SV) : exN T (evN T call (ne + 1)) ⟨e_l_draw.N, e_l_draw.scope, none⟩ ns e_l_draw.body = m_l_draw call := by kernel_rfl
theorem c_l_draw (k : Nat) (as : List SV) (h : MH) : callN T (ne + 1) ns (k + 1) "_law_draw" as h = endR false h (m_l_draw (callN T (ne + 1) ns k) (startS ["pool", "many", "cell", "digit"] as) h) :=
  callN_eq (fi := e_l_draw.fi.2) (by kernel_rfl) (b_l_draw _)
noncomputable def m_l_pick (call : Str → List SV → MH → RE SV) : MS :=
  (sSeq (sRet (mIdx (mVar 1) (mCall call "_law_draw" 2 (mArgs [(mVar 0), (mBi .len (mArgs [(mVar 1)]))]))))
  sNx)
theorem b_l_pick (call : Str → List SV → MH → RE SV) : exN T (evN T call (ne + 1)) ⟨e_l_pick.N, e_l_pick.scope, none⟩ ns e_l_pick.body = m_l_pick call := by kernel_rfl
theorem c_l_pick (k : Nat) (as : List SV) (h : MH) : callN T (ne + 1) ns (k + 1) "_law_pick" as h = endR false h (m_l_pick (callN T (ne + 1) ns k) (startS ["pool", "things"] as) h) :=
  callN_eq (fi := e_l_pick.fi.2) (by kernel_rfl) (b_l_pick _)
noncomputable def ct_l_same_0 (call : Str → List SV → MH → RE SV) : ME Bool := (tNotM (tTru (mCall call "_law_same" 2 (mArgs [(mIdx (mVar 0) (mVar 2)), (mIdx (mVar 1) (mVar 2))]))))
noncomputable def ce_l_same_0 (call : Str → List SV → MH → RE SV) : ME SV := (mVar 2)
noncomputable def m_l_same (call : Str → List SV → MH → RE SV) : MS :=
  (sSeq (sIf (tTru (mIsI (mArgs [(mVar 1), (mPure (.ty .tuple))])))
    (sSeq (sIf (tOrs [(tNotM (tTru (mIsI (mArgs [(mVar 0), (mPure (.ty .tuple))])))), (tVal (mCmp .NotEq (mBi .len (mArgs [(mVar 0)])) (mBi .len (mArgs [(mVar 1)]))))])
      (sSeq (sRet (mPure (.pv (.bl false))))
      sNx)
      sNx)
    (sSeq (sRet (mCmp .Eq (mComp false [2] (wkRange1 (mArgs [(mBi .len (mArgs [(mVar 1)]))])) (.name 2) (ct_l_same_0 call) (ce_l_same_0 call)) (mLst false (mArgs []))))
    sNx))
    sNx)
  (sSeq (sIf (tTru (mIsI (mArgs [(mVar 1), (mPure (.ty .str))])))
    (sSeq (sRet (vAnds [(mIsI (mArgs [(mVar 0), (mPure (.ty .str))])), (mCmp .Eq (mVar 0) (mVar 1))]))
    sNx)
    sNx)
  (sSeq (sIf (tVal (mCmp .Is (mVar 1) (mPure (.pv .non))))
    (sSeq (sRet (mCmp .Is (mVar 0) (mPure (.pv .non))))
    sNx)
    sNx)
  (sSeq (sIf (tNotM (tTru (mIsI (mArgs [(mVar 0), (mPure (.ty .int))]))))
    (sSeq (sRet (mPure (.pv (.bl false))))
    sNx)
    sNx)
  (sSeq (sRet (vAnds [(mCmp .Eq (mIsI (mArgs [(mVar 0), (mPure (.ty .bool))])) (mIsI (mArgs [(mVar 1), (mPure (.ty .bool))]))), (mCmp .Eq (mVar 0) (mVar 1))]))
  sNx)))))
theorem b_l_same (call : Str → List SV → MH → RE SV) : exN T (evN T call (ne + 1)) ⟨e_l_same.N, e_l_same.scope, none⟩ ns e_l_same.body = m_l_same call := by kernel_rfl
theorem c_l_same (k : Nat) (as : List SV) (h : MH) : callN T (ne + 1) ns (k + 1) "_law_same" as h = endR false h (m_l_same (callN T (ne + 1) ns k) (startS ["got", "due", "k"] as) h) :=
  callN_eq (fi := e_l_same.fi.2) (by kernel_rfl) (b_l_same _)
noncomputable def m_l_never (call : Str → List SV → MH → RE SV) : MS :=
  (sSeq (sRet (mBin false .Pow (mPure (.pv (.int 10))) (mPure (.pv (.int 40)))))
  sNx)
theorem b_l_never (call : Str → List SV → MH → RE SV) : exN T (evN T call (ne + 1)) ⟨e_l_never.N, e_l_never.scope, none⟩ ns e_l_never.body = m_l_never call := by kernel_rfl
theorem c_l_never (k : Nat) (as : List SV) (h : MH) : callN T (ne + 1) ns (k + 1) "_law_never" as h = endR false h (m_l_never (callN T (ne + 1) ns k) (startS [] as) h) :=
  callN_eq (fi := e_l_never.fi.2) (by kernel_rfl) (b_l_never _)
noncomputable def m_l_day (call : Str → List SV → MH → RE SV) : MS :=
  (sSeq (sRet (mIf (tVal (mCmp .GtE (mVar 0) (mCall call "_law_never" 0 (mArgs [])))) (mPure (.pv .non)) (mVar 0)))
  sNx)
theorem b_l_day (call : Str → List SV → MH → RE SV) : exN T (evN T call (ne + 1)) ⟨e_l_day.N, e_l_day.scope, none⟩ ns e_l_day.body = m_l_day call := by kernel_rfl
theorem c_l_day (k : Nat) (as : List SV) (h : MH) : callN T (ne + 1) ns (k + 1) "_law_day" as h = endR false h (m_l_day (callN T (ne + 1) ns k) (startS ["number"] as) h) :=
  callN_eq (fi := e_l_day.fi.2) (by kernel_rfl) (b_l_day _)
noncomputable def ce_l_worth_0 (call : Str → List SV → MH → RE SV) : ME SV := (mCall call "_law_worth" 2 (mArgs [(mVar 3), (mVar 1)]))
noncomputable def m_l_worth (call : Str → List SV → MH → RE SV) : MS :=
  (sSeq (sIf (tVal (mCmp .Eq (mIdx (mVar 0) (mPure (.pv (.int 0)))) (mPure (.pv (.str "ever")))))
    (sSeq (sRet (mCall call "_law_never" 0 (mArgs [])))
    sNx)
    sNx)
  (sSeq (sIf (tVal (mCmp .Eq (mIdx (mVar 0) (mPure (.pv (.int 0)))) (mPure (.pv (.str "after")))))
    (sSeq (sRet (mIf (tVal (mCmp .Is (mIdx (mVar 1) (mIdx (mVar 0) (mPure (.pv (.int 1))))) (mPure (.pv .non)))) (mCall call "_law_never" 0 (mArgs [])) (mBin false .Add (mIdx (mVar 1) (mIdx (mVar 0) (mPure (.pv (.int 1))))) (mIdx (mVar 0) (mPure (.pv (.int 2)))))))
    sNx)
    sNx)
  (sSeq (sPut (mComp false [3] (wkV (mSlice false (mVar 0) (some (mPure (.pv (.int 1)))) none)) (.name 3) (mPure true) (ce_l_worth_0 call)) (.name 2))
  (sSeq (sRet (mIf (tVal (mCmp .Eq (mIdx (mVar 0) (mPure (.pv (.int 0)))) (mPure (.pv (.str "latest"))))) (mBi .max (mArgs [(mVar 2)])) (mBi .min (mArgs [(mVar 2)]))))
  sNx))))
theorem b_l_worth (call : Str → List SV → MH → RE SV) : exN T (evN T call (ne + 1)) ⟨e_l_worth.N, e_l_worth.scope, none⟩ ns e_l_worth.body = m_l_worth call := by kernel_rfl
theorem c_l_worth (k : Nat) (as : List SV) (h : MH) : callN T (ne + 1) ns (k + 1) "_law_worth" as h = endR false h (m_l_worth (callN T (ne + 1) ns k) (startS ["term", "history", "rows", "part"] as) h) :=
  callN_eq (fi := e_l_worth.fi.2) (by kernel_rfl) (b_l_worth _)
noncomputable def ce_l_term_0 (call : Str → List SV → MH → RE SV) : ME SV := (mCall call "_law_term" 5 (mArgs [(mVar 0), (mVar 1), (mVar 2), (mBin false .Sub (mVar 3) (mPure (.pv (.int 1)))), (mBin false .FloorDiv (mVar 4) (mVar 5))]))
noncomputable def m_l_term (call : Str → List SV → MH → RE SV) : MS :=
  (sSeq (sIf (tOrs [(tVal (mCmp .Eq (mVar 3) (mPure (.pv (.int 1))))), (tVal (mCmp .Eq (mVar 4) (mPure (.pv (.int 1))))), (tVal (mCmp .Eq (mCall call "_law_draw" 2 (mArgs [(mVar 0), (mPure (.pv (.int 3)))])) (mPure (.pv (.int 0)))))])
    (sSeq (sIf (tVal (mCmp .Eq (mCall call "_law_draw" 2 (mArgs [(mVar 0), (mPure (.pv (.int 9)))])) (mPure (.pv (.int 1)))))
      (sSeq (sRet (mTup (mArgs [(mPure (.pv (.str "ever")))])))
      sNx)
      sNx)
    (sSeq (sRet (mTup (mArgs [(mPure (.pv (.str "after"))), (mCall call "_law_draw" 2 (mArgs [(mVar 0), (mVar 1)])), (mCall call "_law_draw" 2 (mArgs [(mVar 0), (mBin false .Add (mVar 2) (mPure (.pv (.int 1))))]))])))
    sNx))
    sNx)
  (sSeq (sPut (mBi .min (mArgs [(mVar 4), (mBin false .Add (mPure (.pv (.int 1))) (mCall call "_law_draw" 2 (mArgs [(mVar 0), (mPure (.pv (.int 4)))])))])) (.name 5))
  (sSeq (sPut (mComp false [7] (wkRange1 (mArgs [(mVar 5)])) (.name 7) (mPure true) (ce_l_term_0 call)) (.name 6))
  (sSeq (sRet (mBin false .Add (mTup (mArgs [(mIdx (mLst false (mArgs [(mPure (.pv (.str "latest"))), (mPure (.pv (.str "earliest")))])) (mCall call "_law_draw" 2 (mArgs [(mVar 0), (mPure (.pv (.int 2)))])))])) (mTuple (mArgs [(mVar 6)]))))
  sNx))))
theorem b_l_term (call : Str → List SV → MH → RE SV) : exN T (evN T call (ne + 1)) ⟨e_l_term.N, e_l_term.scope, none⟩ ns e_l_term.body = m_l_term call := by kernel_rfl
theorem c_l_term (k : Nat) (as : List SV) (h : MH) : callN T (ne + 1) ns (k + 1) "_law_term" as h = endR false h (m_l_term (callN T (ne + 1) ns k) (startS ["pool", "events", "days", "levels", "room", "many", "parts", "k"] as) h) :=
  callN_eq (fi := e_l_term.fi.2) (by kernel_rfl) (b_l_term _)
noncomputable def ce_law_1 (call : Str → List SV → MH → RE SV) : ME SV := (mIf (tVal (mCmp .Eq (mCall call "_law_draw" 2 (mArgs [(mVar 1), (mPure (.pv (.int 3)))])) (mPure (.pv (.int 0))))) (mPure (.pv .non)) (mBin false .Add (mPure (.pv (.int 30))) (mCall call "_law_draw" 2 (mArgs [(mVar 1), (mPure (.pv (.int 30)))]))))
noncomputable def lp_law_0 (call : Str → List SV → MH → RE SV) : MS := 
  (sSeq (sPut (mBin false .Add (mPure (.pv (.int 1))) (mCall call "_law_draw" 2 (mArgs [(mVar 1), (mPure (.pv (.int 5)))]))) (.name 3))
  (sSeq (sPut (mTuple (mArgs [(mBin false .Add (mLst false (mArgs [(mCall call "_law_draw" 2 (mArgs [(mVar 1), (mPure (.pv (.int 30)))]))])) (mComp false [9] (wkRange2 (mArgs [(mPure (.pv (.int 1))), (mVar 3)])) (.name 9) (mPure true) (ce_law_1 call)))])) (.name 4))
  (sSeq (sPut (mCall call "_law_term" 5 (mArgs [(mVar 1), (mVar 3), (mCall call "_law_pick" 2 (mArgs [(mVar 1), (mLst false (mArgs [(mPure (.pv (.int 9))), (mPure (.pv (.int 40000)))]))])), (mPure (.pv (.int 4))), (mPure (.pv (.int 8)))])) (.name 5))
  (sSeq (sPut (mCall call "_law_term" 5 (mArgs [(mVar 1), (mVar 3), (mCall call "_law_pick" 2 (mArgs [(mVar 1), (mLst false (mArgs [(mPure (.pv (.int 9))), (mPure (.pv (.int 40000)))]))])), (mPure (.pv (.int 3))), (mPure (.pv (.int 8)))])) (.name 6))
  (sSeq (sPar2 7 8 (mArgs [(mCall call "_law_worth" 2 (mArgs [(mVar 5), (mVar 4)])), (mCall call "_law_worth" 2 (mArgs [(mVar 6), (mVar 4)]))]))
  (sSeq (sIf (tOrs [(tNotM (tTru (mCall call "_law_same" 2 (mArgs [(mCall call "worth" 2 (mArgs [(mVar 5), (mVar 4)])), (mCall call "_law_day" 1 (mArgs [(mVar 7)]))])))), (tNotM (tTru (mCall call "_law_same" 2 (mArgs [(mCallK call "worth" 0 2 (mArgs []) (mArgs [(mVar 6), (mVar 4)])), (mCall call "_law_day" 1 (mArgs [(mVar 8)]))]))))])
    (sSeq (sRet (mPure (.pv (.bl false))))
    sNx)
    sNx)
  (sSeq (sPar2 5 6 (mArgs [(mCall call "_law_term" 5 (mArgs [(mVar 1), (mVar 3), (mPure (.pv (.int 9))), (mPure (.pv (.int 3))), (mPure (.pv (.int 3)))])), (mCall call "_law_term" 5 (mArgs [(mVar 1), (mVar 3), (mPure (.pv (.int 9))), (mPure (.pv (.int 3))), (mPure (.pv (.int 4)))]))]))
  (sSeq (sPar2 7 8 (mArgs [(mCall call "_law_worth" 2 (mArgs [(mVar 5), (mVar 4)])), (mCall call "_law_worth" 2 (mArgs [(mVar 6), (mVar 4)]))]))
  (sSeq (sIf (tNotM (tTru (mCall call "_law_same" 2 (mArgs [(mCall call "worth" 2 (mArgs [(mTup (mArgs [(mPure (.pv (.str "latest"))), (mVar 5), (mVar 6)])), (mVar 4)])), (mCall call "_law_day" 1 (mArgs [(mBi .max (mArgs [(mVar 7), (mVar 8)]))]))]))))
    (sSeq (sRet (mPure (.pv (.bl false))))
    sNx)
    sNx)
  (sSeq (sIf (tNotM (tTru (mCall call "_law_same" 2 (mArgs [(mCall call "worth" 2 (mArgs [(mTup (mArgs [(mPure (.pv (.str "earliest"))), (mVar 6), (mVar 5)])), (mVar 4)])), (mCall call "_law_day" 1 (mArgs [(mBi .min (mArgs [(mVar 7), (mVar 8)]))]))]))))
    (sSeq (sRet (mPure (.pv (.bl false))))
    sNx)
    sNx)
  (sSeq (sIf (tOrs [(tNotM (tTru (mCall call "_law_same" 2 (mArgs [(mCall call "worth" 2 (mArgs [(mTup (mArgs [(mPure (.pv (.str "earliest"))), (mTup (mArgs [(mPure (.pv (.str "ever")))])), (mVar 6)])), (mVar 4)])), (mCall call "_law_day" 1 (mArgs [(mVar 8)]))])))), (tVal (mCmp .IsNot (mCall call "worth" 2 (mArgs [(mTup (mArgs [(mPure (.pv (.str "latest"))), (mVar 5), (mTup (mArgs [(mPure (.pv (.str "ever")))]))])), (mVar 4)])) (mPure (.pv .non))))])
    (sSeq (sRet (mPure (.pv (.bl false))))
    sNx)
    sNx)
  sNx)))))))))))
noncomputable def m_law (call : Str → List SV → MH → RE SV) : MS :=
  (sSeq (sPut (mCall call "_law_pool" 1 (mArgs [(mVar 0)])) (.name 1))
  (sSeq (sFor (wkRange1 (mArgs [(mPure (.pv (.int 10)))])) (.name 2) (lp_law_0 call))
  (sSeq (sRet (mCall call "_law_same" 2 (mArgs [(mCall call "worth" 2 (mArgs [(mTup (mArgs [(mPure (.pv (.str "after"))), (mPure (.pv (.int 0))), (mPure (.pv (.int 40000)))])), (mTup (mArgs [(mPure (.pv (.int 999999)))]))])), (mPure (.pv (.int 1039999)))])))
  sNx)))
theorem b_law (call : Str → List SV → MH → RE SV) : exN T (evN T call (ne + 1)) ⟨e_law.N, e_law.scope, none⟩ ns e_law.body = m_law call := by kernel_rfl
theorem c_law (k : Nat) (as : List SV) (h : MH) : callN T (ne + 1) ns (k + 1) "law" as h = endR false h (m_law (callN T (ne + 1) ns k) (startS ["script", "pool", "turn", "events", "history", "first", "second", "one", "two", "k"] as) h) :=
  callN_eq (fi := e_law.fi.2) (by kernel_rfl) (b_law _)
theorem draw_m (call : Str → List SV → MH → RE SV) (p : Pool) (m : Int) (hm : 0 < m) (hm2 : m < 1073741824) (t : MH) :
    ∃ d p', 0 ≤ d ∧ d < m ∧ m_l_draw call [some (.ref 0), some (.pv (.int m)), none, none] (p.mo :: t) = .ret (.pv (.int d)) (Pool.mo p' :: t) := by
  obtain ⟨a, b, c, q, cs, ha⟩ := p
  by_cases h1 : a = 0 ∧ q < cs.length
  · obtain ⟨rfl, h1⟩ := h1
    have hq : (q : Int) < (cs.length : Int) := by omega
    have gq : cs[q]? = some cs[q] := List.getElem?_eq_getElem h1
    by_cases h2 : (10 : Int) ^ 18 ≤ (if cs[q] < 0 then -cs[q] else cs[q])
    · have h3 : 0 < (if cs[q] < 0 then -cs[q] else cs[q]) := by
        have : (0 : Int) < 10 ^ 18 := by decide
        omega
      refine ⟨(if cs[q] < 0 then -cs[q] else cs[q]) % m, ⟨(if cs[q] < 0 then -cs[q] else cs[q]) / m, 59, (c * 31 + cs[q]) % 2147483647, q + 1, cs, Int.ediv_nonneg (by omega) (by omega)⟩, Int.emod_nonneg _ (by omega), Int.emod_lt_of_pos _ hm, ?_⟩
      simp at h2
      simp [m_l_draw, Pool.mo, Pool.val, hq, atI_nat', gq, stoR, h2, h3, hm, hm2]
    · refine ⟨((c * 31 + cs[q]) % 2147483647 * 48271 + 12345) % 2147483647 / 11 % m, ⟨0, b, ((c * 31 + cs[q]) % 2147483647 * 48271 + 12345) % 2147483647, q + 1, cs, by omega⟩, Int.emod_nonneg _ (by omega), Int.emod_lt_of_pos _ hm, ?_⟩
      simp at h2
      simp [m_l_draw, Pool.mo, Pool.val, hq, atI_nat', gq, stoR, Int.not_le.2 h2, hm, hm2]
  · have hx : ∀ {α : Type} (x y : α), (if a = 0 then (if (q : Int) < (cs.length : Int) then x else y) else y) = y := by
      intro α x y
      split
      · rw [if_neg]; omega
      · rfl
    by_cases h3 : 0 < a
    · by_cases h4 : 0 < b - 1
      · refine ⟨a % m, ⟨a / m, b - 1, c, q, cs, Int.ediv_nonneg (by omega) (by omega)⟩, Int.emod_nonneg _ (by omega), Int.emod_lt_of_pos _ hm, ?_⟩
        have h5 : ¬ a = 0 := by omega
        simp at h4
        simp [m_l_draw, Pool.mo, Pool.val, stoR, h3, h4, h5, hm, hm2]
      · refine ⟨a % m, ⟨0, b - 1, c, q, cs, by omega⟩, Int.emod_nonneg _ (by omega), Int.emod_lt_of_pos _ hm, ?_⟩
        have h5 : ¬ a = 0 := by omega
        have h6 : ¬ (1 < b) := by omega
        simp [m_l_draw, Pool.mo, Pool.val, stoR, h3, h6, h5, hm, hm2]
    · obtain rfl : a = 0 := by omega
      have h6 : cs.length ≤ q := by omega
      refine ⟨(c * 48271 + 12345) % 2147483647 / 11 % m, ⟨0, b, (c * 48271 + 12345) % 2147483647, q, cs, by omega⟩, Int.emod_nonneg _ (by omega), Int.emod_lt_of_pos _ hm, ?_⟩
      simp [m_l_draw, Pool.mo, Pool.val, stoR, Nat.not_lt.2 h6, hm, hm2]
/-- a draw: some number below, some pool left -/
theorem draw_ok (k : Nat) (p : Pool) (m : Int) (hm : 0 < m) (hm2 : m < 1073741824) (t : MH) :
    ∃ d p', 0 ≤ d ∧ d < m ∧ callN T (ne + 1) ns (k + 1) "_law_draw" [.ref 0, .pv (.int m)] (p.mo :: t) = .ok (.pv (.int d)) (Pool.mo p' :: t) := by
  obtain ⟨d, p', h1, h2, e⟩ := draw_m (callN T (ne + 1) ns k) p m hm hm2 t
  refine ⟨d, p', h1, h2, ?_⟩
  rw [c_l_draw]
  show endR false _ (m_l_draw _ [some (.ref 0), some (.pv (.int m)), none, none] _) = _
  rw [e]
  simp
theorem pool_m (call : Str → List SV → MH → RE SV) (xs : List Int) (hx : xs.length ≤ 63) : ∃ p : Pool, m_l_pool call [some (.pv (.scr xs))] [] = .ret (.ref 0) [p.mo] := by
  refine ⟨⟨0, 0, 11 + xs.length, 0, xs, by omega⟩, ?_⟩
  have e : cutP (xs.map PV.int) none (some 63) = xs.map PV.int := by
    unfold cutP
    have e1 : HT.sIx (xs.map PV.int).length 0 none = 0 := rfl
    have e2 : HT.sIx (xs.map PV.int).length (xs.map PV.int).length (some 63) = xs.length := by
      simp [HT.sIx]
      omega
    rw [e1, e2]
    simp only [List.drop_zero, Nat.sub_zero]
    exact List.take_of_length_le (by simp)
  simp [m_l_pool, e, sizeLine, Pool.mo, Pool.val]
theorem pool_ok (k : Nat) (xs : List Int) (hx : xs.length ≤ 63) : ∃ p : Pool, callN T (ne + 1) ns (k + 1) "_law_pool" [.pv (.scr xs)] [] = .ok (.ref 0) [p.mo] := by
  obtain ⟨p, e⟩ := pool_m (callN T (ne + 1) ns k) xs hx
  refine ⟨p, ?_⟩
  rw [c_l_pool]
  show endR true _ (m_l_pool _ [some (.pv (.scr xs))] _) = _
  rw [e]
  simp [finR]
theorem pick_m (call : Str → List SV → MH → RE SV) (h h' : MH) (v : PV) (xs : List PV) (hv : v = .lst xs ∨ v = .tup xs) (n : Nat) (hn : n < xs.length)
    (e : call "_law_draw" [.ref 0, .pv (.int (xs.length : Int))] h = .ok (.pv (.int (n : Int))) h') :
    m_l_pick call [some (.ref 0), some (.pv v)] h = .ret (.pv xs[n]) h' := by
  rcases hv with rfl | rfl
  · simp [m_l_pick, e, atI_nat', hn]
  · simp [m_l_pick, e, atI_nat', hn]
/-- one of some things is picked -/
theorem pick_ok (k : Nat) (p : Pool) (v : PV) (xs : List PV) (hv : v = .lst xs ∨ v = .tup xs) (h0 : xs ≠ []) (h1 : xs.length < 1073741824) (t : MH) :
    ∃ x ∈ xs, ∃ p', callN T (ne + 1) ns (k + 2) "_law_pick" [.ref 0, .pv v] (p.mo :: t) = .ok (.pv x) (Pool.mo p' :: t) := by
  have hl : 0 < xs.length := List.length_pos_iff.2 h0
  obtain ⟨d, p', h2, h3, e⟩ := draw_ok k p xs.length (by omega) (by omega) t
  obtain ⟨n, rfl⟩ := Int.eq_ofNat_of_zero_le h2
  have hn : n < xs.length := by omega
  refine ⟨xs[n], List.getElem_mem hn, p', ?_⟩
  rw [c_l_pick]
  show endR false _ (m_l_pick _ [some (.ref 0), some (.pv v)] _) = _
  rw [pick_m _ _ _ v xs hv n hn e]
  simp
mutual
/-- what _law_same takes -/
def sameV : PV → Prop
  | .non => True
  | .bl _ => True
  | .int _ => True
  | .str _ => True
  | .tup xs => xs.length ≤ sizeLine ∧ sameVs xs
  | .lst _ => False
  | .scr _ => False
def sameVs : List PV → Prop
  | [] => True
  | x :: xs => sameV x ∧ sameVs xs
end
theorem sameVs_iff {xs : List PV} : sameVs xs ↔ ∀ x ∈ xs, sameV x := by
  induction xs with
  | nil => simp [sameVs]
  | cons x xs ih => simp [sameVs, ih]
theorem sml_len {n : Nat} (h : n ≤ sizeLine) : Sml (n : Int) := by
  have h24 : sizeLine = 16777216 := by decide
  exact sml_of (by omega) (by omega)

theorem same_loop (call : Str → List SV → MH → RE SV) (h : MH) (xs : List PV) (hz : xs.length ≤ sizeLine) (hh : ∀ x ∈ xs, call "_law_same" [.pv x, .pv x] h = .ok (.pv (.bl true)) h) :
    compLoop (.name 2) (ct_l_same_0 call) (ce_l_same_0 call) [some (.pv (.tup xs)), some (.pv (.tup xs)), none] (rangeL 0 xs.length) [] h = .ok [] h := by
  rw [compLoop_pure (fun _ => false) (fun x => x) _ _ (by simpa only [rangeL, List.length_nil, List.length_map, List.length_range, Nat.zero_add] using hz)]
  · rw [List.filter_eq_nil_iff.2 (fun _ _ => by simp)]; rfl
  · intro x hx
    simp only [rangeL, List.mem_map, List.mem_range] at hx
    obtain ⟨i, hi, rfl⟩ := hx
    refine ⟨_, rfl, ?_, fun hc => nomatch hc⟩
    have e1 := hh xs[i] (List.getElem_mem hi)
    simp [ct_l_same_0, atI_nat', hi, e1]
theorem same_tup (call : Str → List SV → MH → RE SV) (h : MH) (xs : List PV) (hz : xs.length ≤ sizeLine) (hh : ∀ x ∈ xs, call "_law_same" [.pv x, .pv x] h = .ok (.pv (.bl true)) h) :
    m_l_same call [some (.pv (.tup xs)), some (.pv (.tup xs)), none] h = .ret (.pv (.bl true)) h := by
  have e := same_loop call h xs hz hh
  have hb := sml_len hz
  have e0 : (eqP (.lst []) (.lst [])) = some true := by
    rw [eqP_nil (by rfl) (by simp [PV.deps])]; rfl
  have e1 : eqP (.int (xs.length : Int)) (.int (xs.length : Int)) = some true := by simp
  simp [m_l_same, e, hb, -eqP, e0, e1]
theorem same_leaf (call : Str → List SV → MH → RE SV) (h : MH) (v : PV) (hd : v.dep = 0) (hs : sameV v) : m_l_same call [some (.pv v), some (.pv v), none] h = .ret (.pv (.bl true)) h := by
  cases v with
  | tup xs => simp [PV.dep] at hd
  | lst xs => simp [sameV] at hs
  | scr xs => simp [sameV] at hs
  | _ => simp [m_l_same]
theorem same_ok (h : MH) : ∀ (k : Nat) (v : PV), v.dep ≤ k → sameV v → callN T (ne + 1) ns (k + 1) "_law_same" [.pv v, .pv v] h = .ok (.pv (.bl true)) h := by
  have fin : ∀ (k : Nat) (v : PV), m_l_same (callN T (ne + 1) ns k) [some (.pv v), some (.pv v), none] h = .ret (.pv (.bl true)) h → callN T (ne + 1) ns (k + 1) "_law_same" [.pv v, .pv v] h = .ok (.pv (.bl true)) h := by
    intro k v e
    rw [c_l_same]
    show endR false h (m_l_same _ [some (.pv v), some (.pv v), none] h) = _
    rw [e]
    simp
  intro k
  induction k with
  | zero => exact fun v hd hs => fin _ _ (same_leaf _ h v (by omega) hs)
  | succ k ih =>
    intro v hd hs
    by_cases h0 : v.dep = 0
    · exact fin _ _ (same_leaf _ h v h0 hs)
    cases v with
    | tup xs =>
      simp only [PV.dep, Nat.add_le_add_iff_right] at hd
      rw [deps_le] at hd
      simp only [sameV] at hs
      rw [sameVs_iff] at hs
      obtain ⟨hz, hs⟩ := hs
      exact fin _ _ (same_tup _ h xs hz (fun x hx => ih x (hd x hx) (hs x hx)))
    | lst xs => simp [sameV] at hs
    | _ => simp [PV.dep] at h0
abbrev Call := Str → List SV → MH → RE SV
def DrawOk (call : Call) : Prop := ∀ (p : Pool) (m : Int), 0 < m → m < 1073741824 → ∀ t : MH, ∃ d p', 0 ≤ d ∧ d < m ∧ call "_law_draw" [.ref 0, .pv (.int m)] (p.mo :: t) = .ok (.pv (.int d)) (Pool.mo p' :: t)
def encN : Option Int → PV
  | none => .non
  | some i => .int i
theorem one_le : 1 ≤ sizeLine := by decide
theorem two_le : 2 ≤ sizeLine := by decide
theorem three_le : 3 ≤ sizeLine := by decide
def HV (H : List (Option Int)) : PV := .tup (H.map encN)
/-- a right term over n events, of at most k levels -/
inductive WfT (n : Nat) : Nat → PV → Prop
  | ever (k : Nat) : WfT n k (.tup [.str "ever"])
  | aft (k : Nat) (e : Nat) (d : Int) : e < n → 0 ≤ d → d ≤ 40000 → WfT n k (.tup [.str "after", .int e, .int d])
  | node (k : Nat) (b : Bool) (ts : List PV) : ts ≠ [] → ts.length ≤ 8 → (∀ t ∈ ts, WfT n k t) → WfT n (k + 1) (.tup (.str (if b = true then "latest" else "earliest") :: ts))
theorem s_ae : ¬ (("after" : Str) = "ever") := by decide
theorem s_le : ¬ (("latest" : Str) = "ever") := by decide
theorem s_ee : ¬ (("earliest" : Str) = "ever") := by decide
theorem s_la : ¬ (("latest" : Str) = "after") := by decide
theorem s_ea : ¬ (("earliest" : Str) = "after") := by decide
theorem s_el : ¬ (("earliest" : Str) = "latest") := by decide
theorem cut_tail (x : PV) (ts : List PV) : cutP (x :: ts) (some 1) none = ts := by
  unfold cutP
  have e1 : HT.sIx (x :: ts).length 0 (some 1) = 1 := by
    simp [HT.sIx]
  have e2 : HT.sIx (x :: ts).length (x :: ts).length none = ts.length + 1 := rfl
  rw [e1, e2]
  simp
theorem ints_map (xs : List Int) : intsOf (xs.map PV.int) = some xs := by
  induction xs with
  | nil => rfl
  | cons x xs ih => simp [ih]
def mnx (b : Bool) (xs : List Int) : Option Int := if b = true then maxL xs else minL xs
theorem mnx_some (b : Bool) (xs : List Int) (h : xs ≠ []) : ∃ v, mnx b xs = some v := by
  cases xs with
  | nil => exact absurd rfl h
  | cons x xs => cases b <;> exact ⟨_, rfl⟩
def NV : Int := 1000000000000000000000000000000000000000000000000000000000000
def NW : Int := 10000000000000000000000000000000000000000
theorem wd_ever (call : Call) (H : List (Option Int)) (h : MH) : m_worth_day call [some (.pv (.tup [.str "ever"])), some (.pv (HV H)), none, none, none] h = .ret (.pv (.int NV)) h := by
  simp [m_worth_day, -eqP, NV]
def aftV (N : Int) (o : Option Int) (d : Int) : Int := match o with
  | none => N
  | some x => x + d
theorem wd_aft (call : Call) (H : List (Option Int)) (h : MH) (e : Nat) (d : Int) (he : e < H.length) : m_worth_day call [some (.pv (.tup [.str "after", .int e, .int d])), some (.pv (HV H)), none, none, none] h = .ret (.pv (.int (aftV NV H[e] d))) h := by
  have e1 : L2.atI (H.map encN) ((e : Nat) : Int) = some (encN H[e]) := by rw [atI_nat']; simp [he]
  cases eH : H[e] with
  | none =>
    rw [eH] at e1
    simp [m_worth_day, -eqP, NV, s_ae, HV, e1, encN, aftV]
  | some x =>
    rw [eH] at e1
    simp [m_worth_day, -eqP, NV, s_ae, HV, e1, encN, aftV]
theorem wd_node (call : Call) (H : List (Option Int)) (h : MH) (b : Bool) (ts : List PV) (g : PV → Int) (hl : ts.length ≤ 8) (v : Int) (hv : mnx b (ts.map g) = some v)
    (hg : ∀ t ∈ ts, call "worth_day" [.pv t, .pv (HV H)] h = .ok (.pv (.int (g t))) h) :
    m_worth_day call [some (.pv (.tup (.str (if b = true then "latest" else "earliest") :: ts))), some (.pv (HV H)), none, none, none] h = .ret (.pv (.int v)) h := by
  have h24 : sizeLine = 16777216 := by decide
  have e : compLoop (.name 4) (mPure true) (ce_worth_day_0 call) [some (.pv (.tup (.str (if b = true then "latest" else "earliest") :: ts))), some (.pv (HV H)), none, none, none] ts [] h = .ok ((ts.map g).map .int) h := by
    rw [compLoop_map (fun t => .int (g t)) ts (by omega)]
    · simp
    · intro t ht
      refine ⟨_, rfl, ?_⟩
      simp [ce_worth_day_0, hg t ht]
  have ei := ints_map (ts.map g)
  generalize hxs : (ts.map g).map PV.int = xs at e ei
  cases b with
  | true =>
    simp only [mnx, if_true] at hv e
    simp [m_worth_day, -eqP, s_le, s_la, cut_tail, e, -intsOf, ei, hv]
  | false =>
    simp only [mnx, Bool.false_eq_true, if_false] at hv e
    simp [m_worth_day, -eqP, s_ee, s_ea, s_el, cut_tail, e, -intsOf, ei, hv]
def NeverOk (call : Call) : Prop := ∀ h, call "_law_never" [] h = .ok (.pv (.int NW)) h
theorem lw_ever (call : Call) (hn : NeverOk call) (H : List (Option Int)) (h : MH) : m_l_worth call [some (.pv (.tup [.str "ever"])), some (.pv (HV H)), none, none] h = .ret (.pv (.int NW)) h := by
  have := hn h
  simp [m_l_worth, -eqP, this]
theorem lw_aft (call : Call) (hn : NeverOk call) (H : List (Option Int)) (h : MH) (e : Nat) (d : Int) (he : e < H.length) : m_l_worth call [some (.pv (.tup [.str "after", .int e, .int d])), some (.pv (HV H)), none, none] h = .ret (.pv (.int (aftV NW H[e] d))) h := by
  have e1 : L2.atI (H.map encN) ((e : Nat) : Int) = some (encN H[e]) := by rw [atI_nat']; simp [he]
  have := hn h
  cases eH : H[e] with
  | none =>
    rw [eH] at e1
    simp [m_l_worth, -eqP, this, s_ae, HV, e1, encN, aftV]
  | some x =>
    rw [eH] at e1
    simp [m_l_worth, -eqP, this, s_ae, HV, e1, encN, aftV]
theorem lw_node (call : Call) (H : List (Option Int)) (h : MH) (b : Bool) (ts : List PV) (g : PV → Int) (hl : ts.length ≤ 8) (v : Int) (hv : mnx b (ts.map g) = some v)
    (hg : ∀ t ∈ ts, call "_law_worth" [.pv t, .pv (HV H)] h = .ok (.pv (.int (g t))) h) :
    m_l_worth call [some (.pv (.tup (.str (if b = true then "latest" else "earliest") :: ts))), some (.pv (HV H)), none, none] h = .ret (.pv (.int v)) h := by
  have h24 : sizeLine = 16777216 := by decide
  have e : compLoop (.name 3) (mPure true) (ce_l_worth_0 call) [some (.pv (.tup (.str (if b = true then "latest" else "earliest") :: ts))), some (.pv (HV H)), none, none] ts [] h = .ok ((ts.map g).map .int) h := by
    rw [compLoop_map (fun t => .int (g t)) ts (by omega)]
    · simp
    · intro t ht
      refine ⟨_, rfl, ?_⟩
      simp [ce_l_worth_0, hg t ht]
  have ei := ints_map (ts.map g)
  generalize hxs : (ts.map g).map PV.int = xs at e ei
  cases b with
  | true =>
    simp only [mnx, if_true] at hv e
    simp [m_l_worth, -eqP, s_le, s_la, cut_tail, e, -intsOf, ei, hv]
  | false =>
    simp only [mnx, Bool.false_eq_true, if_false] at hv e
    simp [m_l_worth, -eqP, s_ee, s_ea, s_el, cut_tail, e, -intsOf, ei, hv]
/-- the program's never beside the law's -/
def Rl (x y : Int) : Prop := (x = NV ∧ y = NW) ∨ (x = y ∧ 0 ≤ x ∧ x < 10000000)
def HOk (H : List (Option Int)) : Prop := ∀ o ∈ H, ∀ x, o = some x → 0 ≤ x ∧ x ≤ 1000000
theorem Rl_aft (H : List (Option Int)) (hH : HOk H) (e : Nat) (he : e < H.length) (d : Int) (h1 : 0 ≤ d) (h2 : d ≤ 40000) : Rl (aftV NV H[e] d) (aftV NW H[e] d) := by
  have := hH H[e] (List.getElem_mem he)
  cases hx : H[e] with
  | none => exact .inl ⟨rfl, rfl⟩
  | some x =>
    have := this x hx
    exact .inr ⟨rfl, by simp only [aftV]; omega, by simp only [aftV]; omega⟩
theorem Rl_op (b : Bool) {x y x' y' : Int} (h : Rl x y) (h' : Rl x' y') : Rl (if b = true then (if x < x' then x' else x) else (if x' < x then x' else x)) (if b = true then (if y < y' then y' else y) else (if y' < y then y' else y)) := by
  unfold Rl NV NW at *
  cases b <;> simp only [if_true, Bool.false_eq_true, if_false] <;> split <;> split <;> omega
theorem Rl_mnx (b : Bool) (xs ys : List Int) (hl : xs.length = ys.length) (hr : ∀ i (h1 : i < xs.length) (h2 : i < ys.length), Rl xs[i] ys[i]) (x y : Int) (hx : mnx b xs = some x) (hy : mnx b ys = some y) : Rl x y := by
  have fold : ∀ (xs ys : List Int) (a c : Int), xs.length = ys.length → (∀ i (h1 : i < xs.length) (h2 : i < ys.length), Rl xs[i] ys[i]) → Rl a c →
      Rl (xs.foldl (fun a x => if b = true then (if a < x then x else a) else (if x < a then x else a)) a) (ys.foldl (fun a x => if b = true then (if a < x then x else a) else (if x < a then x else a)) c) := by
    intro xs
    induction xs with
    | nil => intro ys a c hl _ h; cases ys with
      | nil => exact h
      | cons _ _ => simp at hl
    | cons x xs ih => intro ys a c hl hr h; cases ys with
      | nil => simp at hl
      | cons y ys =>
        refine ih ys _ _ (by simpa using hl) (fun i h1 h2 => hr (i + 1) (by simpa using h1) (by simpa using h2)) ?_
        exact Rl_op b h (hr 0 (by simp) (by simp))
  cases xs with
  | nil => cases b <;> cases hx
  | cons x0 xs => cases ys with
    | nil => simp at hl
    | cons y0 ys =>
      have := fold xs ys x0 y0 (by simpa using hl) (fun i h1 h2 => hr (i + 1) (by simpa using h1) (by simpa using h2)) (hr 0 (by simp) (by simp))
      cases b with
      | true =>
        simp only [mnx, maxL, if_true, Option.some.injEq] at hx hy this
        rw [← hx, ← hy]
        exact this
      | false =>
        simp only [mnx, minL, Bool.false_eq_true, if_false, Option.some.injEq] at hx hy this
        rw [← hx, ← hy]
        exact this
theorem c_wd (k : Nat) (t H : PV) (h : MH) (v : PV) (e : m_worth_day (callN T (ne + 1) ns k) [some (.pv t), some (.pv H), none, none, none] h = .ret (.pv v) h) : callN T (ne + 1) ns (k + 1) "worth_day" [.pv t, .pv H] h = .ok (.pv v) h := by
  rw [c_worth_day]
  show endR false _ (m_worth_day _ [some (.pv t), some (.pv H), none, none, none] _) = _
  rw [e]
  simp
theorem c_lw (k : Nat) (t H : PV) (h : MH) (v : PV) (e : m_l_worth (callN T (ne + 1) ns k) [some (.pv t), some (.pv H), none, none] h = .ret (.pv v) h) : callN T (ne + 1) ns (k + 1) "_law_worth" [.pv t, .pv H] h = .ok (.pv v) h := by
  rw [c_l_worth]
  show endR false _ (m_l_worth _ [some (.pv t), some (.pv H), none, none] _) = _
  rw [e]
  simp
theorem never_ok (k : Nat) : NeverOk (callN T (ne + 1) ns (k + 1)) := by
  intro h
  rw [c_l_never]
  show endR false _ (m_l_never _ [] _) = _
  have : m_l_never (callN T (ne + 1) ns k) [] h = .ret (.pv (.int NW)) h := by simp [m_l_never, NW]
  rw [this]
  simp
/-- both ways of reckoning, side by side -/
theorem both (H : List (Option Int)) (hH : HOk H) : ∀ (k : Nat) (t : PV), WfT H.length k t → ∃ x y : Int, Rl x y ∧ (∀ j h, callN T (ne + 1) ns (j + 1 + k + 1) "worth_day" [.pv t, .pv (HV H)] h = .ok (.pv (.int x)) h) ∧ (∀ j h, callN T (ne + 1) ns (j + 1 + k + 1) "_law_worth" [.pv t, .pv (HV H)] h = .ok (.pv (.int y)) h) := by
  have leaf1 : ∀ k, ∃ x y : Int, Rl x y ∧ (∀ j h, callN T (ne + 1) ns (j + 1 + k + 1) "worth_day" [.pv (.tup [.str "ever"]), .pv (HV H)] h = .ok (.pv (.int x)) h) ∧ (∀ j h, callN T (ne + 1) ns (j + 1 + k + 1) "_law_worth" [.pv (.tup [.str "ever"]), .pv (HV H)] h = .ok (.pv (.int y)) h) := fun k =>
    ⟨NV, NW, .inl ⟨rfl, rfl⟩, fun j h => c_wd _ _ _ _ _ (wd_ever _ H h), fun j h => c_lw _ _ _ _ _ (lw_ever _ (by rw [show j + 1 + k = (j + k) + 1 by omega]; exact never_ok _) H h)⟩
  have leaf2 : ∀ k (e : Nat) (d : Int), e < H.length → 0 ≤ d → d ≤ 40000 → ∃ x y : Int, Rl x y ∧ (∀ j h, callN T (ne + 1) ns (j + 1 + k + 1) "worth_day" [.pv (.tup [.str "after", .int e, .int d]), .pv (HV H)] h = .ok (.pv (.int x)) h) ∧ (∀ j h, callN T (ne + 1) ns (j + 1 + k + 1) "_law_worth" [.pv (.tup [.str "after", .int e, .int d]), .pv (HV H)] h = .ok (.pv (.int y)) h) := fun k e d he h1 h2 =>
    ⟨aftV NV H[e] d, aftV NW H[e] d, Rl_aft H hH e he d h1 h2, fun j h => c_wd _ _ _ _ _ (wd_aft _ H h e d he), fun j h => c_lw _ _ _ _ _ (lw_aft _ (by rw [show j + 1 + k = (j + k) + 1 by omega]; exact never_ok _) H h e d he)⟩
  intro k
  induction k with
  | zero =>
    intro t ht
    cases ht with
    | ever => exact leaf1 0
    | aft _ e d he h1 h2 => exact leaf2 0 _ _ he h1 h2
  | succ k ih =>
    intro t ht
    cases ht with
    | ever => exact leaf1 _
    | aft _ e d he h1 h2 => exact leaf2 _ _ _ he h1 h2
    | node _ b ts h0 hl hts =>
      have : ∀ t : PV, ∃ xy : Int × Int, t ∈ ts → Rl xy.1 xy.2 ∧ (∀ j h, callN T (ne + 1) ns (j + 1 + k + 1) "worth_day" [.pv t, .pv (HV H)] h = .ok (.pv (.int xy.1)) h) ∧ (∀ j h, callN T (ne + 1) ns (j + 1 + k + 1) "_law_worth" [.pv t, .pv (HV H)] h = .ok (.pv (.int xy.2)) h) := by
        intro t
        by_cases ht : t ∈ ts
        · obtain ⟨x, y, h1, h2, h3⟩ := ih t (hts t ht)
          exact ⟨(x, y), fun _ => ⟨h1, h2, h3⟩⟩
        · exact ⟨(0, 0), fun hc => absurd hc ht⟩
      obtain ⟨g, hg⟩ := Classical.axiomOfChoice this
      obtain ⟨x, hx⟩ := mnx_some b (ts.map fun t => (g t).1) (by simpa using h0)
      obtain ⟨y, hy⟩ := mnx_some b (ts.map fun t => (g t).2) (by simpa using h0)
      refine ⟨x, y, Rl_mnx b _ _ (by simp) (fun i h1 h2 => ?_) x y hx hy, fun j h => c_wd _ _ _ _ _ (wd_node _ H h b ts (fun t => (g t).1) hl x hx fun t ht => (hg t ht).2.1 j h), fun j h => c_lw _ _ _ _ _ (lw_node _ H h b ts (fun t => (g t).2) hl y hy fun t ht => (hg t ht).2.2 j h)⟩
      simp only [List.getElem_map]
      exact (hg _ (List.getElem_mem (by simpa using h1))).1
theorem compLoop_all {tg : Tg} {te : ME SV} {σ : Sl} (I : MH → Prop) (P : PV → Prop) : ∀ (xs acc : List PV) (h : MH), acc.length + xs.length ≤ sizeLine → I h →
    (∀ x ∈ xs, ∀ h, I h → ∃ σ1, tg.put (.pv x) σ = some σ1 ∧ ∃ v h2, te σ1 h = .ok (.pv v) h2 ∧ P v ∧ I h2) →
    ∃ ys h', compLoop tg (mPure true) te σ xs acc h = .ok (acc ++ ys) h' ∧ I h' ∧ (∀ y ∈ ys, P y) ∧ ys.length = xs.length := by
  intro xs
  induction xs with
  | nil => intro acc h _ hi _; exact ⟨[], h, by simp [compLoop], hi, by simp, by simp⟩
  | cons x r ih =>
    intro acc h hz hi hx
    simp only [List.length_cons] at hz
    obtain ⟨σ1, e1, v, h2, e4, pv, hi2⟩ := hx x (by simp) h hi
    obtain ⟨ys, h', e, hi', hp, hl⟩ := ih (acc ++ [v]) h2 (by simp; omega) hi2 (fun y hy => hx y (by simp [hy]))
    refine ⟨v :: ys, h', ?_, hi', ?_, by simp; omega⟩
    · unfold compLoop
      simp only [e1, mPure_ap, e4, SV.frz]
      rw [if_pos (by omega), e]
      simp
    · intro y hy
      rcases List.mem_cons.1 hy with rfl | hy
      · exact pv
      · exact hp y hy
noncomputable def leafB (call : Call) : MS :=
    (sSeq (sIf (tVal (mCmp .Eq (mCall call "_law_draw" 2 (mArgs [(mVar 0), (mPure (.pv (.int 9)))])) (mPure (.pv (.int 1)))))
      (sSeq (sRet (mTup (mArgs [(mPure (.pv (.str "ever")))])))
      sNx)
      sNx)
    (sSeq (sRet (mTup (mArgs [(mPure (.pv (.str "after"))), (mCall call "_law_draw" 2 (mArgs [(mVar 0), (mVar 1)])), (mCall call "_law_draw" 2 (mArgs [(mVar 0), (mBin false .Add (mVar 2) (mPure (.pv (.int 1))))]))])))
    sNx))
noncomputable def nodeB (call : Call) : MS :=
  (sSeq (sPut (mBi .min (mArgs [(mVar 4), (mBin false .Add (mPure (.pv (.int 1))) (mCall call "_law_draw" 2 (mArgs [(mVar 0), (mPure (.pv (.int 4)))])))])) (.name 5))
  (sSeq (sPut (mComp false [7] (wkRange1 (mArgs [(mVar 5)])) (.name 7) (mPure true) (ce_l_term_0 call)) (.name 6))
  (sSeq (sRet (mBin false .Add (mTup (mArgs [(mIdx (mLst false (mArgs [(mPure (.pv (.str "latest"))), (mPure (.pv (.str "earliest")))])) (mCall call "_law_draw" 2 (mArgs [(mVar 0), (mPure (.pv (.int 2)))])))])) (mTuple (mArgs [(mVar 6)]))))
  sNx)))
noncomputable def testB (call : Call) : ME Bool := (tOrs [(tVal (mCmp .Eq (mVar 3) (mPure (.pv (.int 1))))), (tVal (mCmp .Eq (mVar 4) (mPure (.pv (.int 1))))), (tVal (mCmp .Eq (mCall call "_law_draw" 2 (mArgs [(mVar 0), (mPure (.pv (.int 3)))])) (mPure (.pv (.int 0)))))])
theorem term_split (call : Call) : m_l_term call = sSeq (sIf (testB call) (leafB call) sNx) (nodeB call) := rfl
def tS0 (n days lev room : Int) : Sl := [some (.ref 0), some (.pv (.int n)), some (.pv (.int days)), some (.pv (.int lev)), some (.pv (.int room)), none, none, none]
theorem test_m (call : Call) (hd : DrawOk call) (n days lev room : Int) (p : Pool) (tl : MH) :
    ∃ (b : Bool) (p' : Pool), testB call (tS0 n days lev room) (p.mo :: tl) = .ok b (p'.mo :: tl) ∧ (b = false → lev ≠ 1) := by
  by_cases h1 : lev = 1
  · exact ⟨true, p, by simp [testB, tS0, h1, -eqP], by simp⟩
  by_cases h2 : room = 1
  · exact ⟨true, p, by simp [testB, tS0, h1, h2, -eqP], by simp⟩
  obtain ⟨d, p', hd1, hd2, e⟩ := hd p 3 (by omega) (by omega) tl
  exact ⟨decide (d = 0), p', by simp [testB, tS0, h1, h2, e, -eqP], fun _ => h1⟩
theorem leaf_m (call : Call) (hd : DrawOk call) (n : Nat) (hn1 : 1 ≤ n) (hn2 : n ≤ 100) (days lev room : Int) (h1 : 0 ≤ days) (h2 : days ≤ 40000) (k : Nat) (p : Pool) (tl : MH) :
    ∃ (t : PV) (p' : Pool), leafB call (tS0 n days lev room) (p.mo :: tl) = .ret (.pv t) (p'.mo :: tl) ∧ WfT n k t := by
  obtain ⟨d, p1, hd1, hd2, e⟩ := hd p 9 (by omega) (by omega) tl
  by_cases h : d = 1
  · subst h
    exact ⟨_, p1, by simp [leafB, tS0, e, -eqP, one_le], .ever k⟩
  · obtain ⟨a, p2, ha1, ha2, e2⟩ := hd p1 n (by omega) (by omega) tl
    obtain ⟨b, p3, hb1, hb2, e3⟩ := hd p2 (days + 1) (by omega) (by omega) tl
    obtain ⟨m, rfl⟩ := Int.eq_ofNat_of_zero_le ha1
    refine ⟨.tup [.str "after", .int m, .int b], p3, by simp [leafB, tS0, e, h, e2, e3, -eqP, three_le], .aft k m b (by omega) hb1 (by omega)⟩
theorem node_m (call : Call) (hd : DrawOk call) (n : Nat) (days lev room : Int) (hr1 : 1 ≤ room) (hr2 : room ≤ 8) (k : Nat)
    (hrec : ∀ (r : Int), 1 ≤ r → r ≤ 8 → ∀ (p : Pool) (tl : MH), ∃ (t : PV) (p' : Pool), call "_law_term" [.ref 0, .pv (.int n), .pv (.int days), .pv (.int (lev - 1)), .pv (.int r)] (p.mo :: tl) = .ok (.pv t) (p'.mo :: tl) ∧ WfT n k t) (p : Pool) (tl : MH) :
    ∃ (t : PV) (p' : Pool), nodeB call (tS0 n days lev room) (p.mo :: tl) = .ret (.pv t) (p'.mo :: tl) ∧ WfT n (k + 1) t := by
  have h24 : sizeLine = 16777216 := by decide
  obtain ⟨d, p1, hd1, hd2, e1⟩ := hd p 4 (by omega) (by omega) tl
  obtain ⟨m, hm⟩ : ∃ m : Nat, (if 1 + d < room then 1 + d else room) = (m : Int) := ⟨(if 1 + d < room then 1 + d else room).toNat, by split <;> omega⟩
  have hm1 : 1 ≤ m := by split at hm <;> omega
  have hm2 : m ≤ 4 := by split at hm <;> omega
  have hm3 : (m : Int) ≤ room := by split at hm <;> omega
  obtain ⟨ys, h', e2, ⟨p2, rfl⟩, hy, hl⟩ := compLoop_all (tg := .name 7) (te := ce_l_term_0 call) (σ := [some (.ref 0), some (.pv (.int n)), some (.pv (.int days)), some (.pv (.int lev)), some (.pv (.int room)), some (.pv (.int m)), none, none])
    (fun h => ∃ p : Pool, h = p.mo :: tl) (WfT n k) (rangeL 0 m) [] (p1.mo :: tl) (by simp [rangeL]; omega) ⟨p1, rfl⟩ (by
      rintro x hx h ⟨p2, rfl⟩
      have q1 : 1 ≤ room / m := by
        have := Int.le_ediv_iff_mul_le (a := 1) (b := room) (c := (m : Int)) (by omega)
        omega
      have q2 : room / m ≤ 8 := by
        have := Int.ediv_le_self (a := room) (b := (m : Int)) (by omega)
        omega
      obtain ⟨t, p3, e3, ht⟩ := hrec (room / m) q1 q2 p2 tl
      refine ⟨_, rfl, t, _, ?_, ht, p3, rfl⟩
      have hm0 : (0 : Int) < m := by omega
      have hm9 : (m : Int) < 1073741824 := by omega
      have hm0' : 0 < m := by omega
      simp [ce_l_term_0, e3, hm0', hm9])
  obtain ⟨b, p3, hb1, hb2, e3⟩ := hd p2 2 (by omega) (by omega) tl
  simp only [List.nil_append] at e2
  have hyl : ys.length = m := by rw [hl]; simp [rangeL]
  have s1 : Sml (m : Int) := sml_of (by omega) (by omega)
  have hz : 1 + ys.length ≤ sizeLine := by omega
  refine ⟨.tup (.str (if decide (b = 0) = true then "latest" else "earliest") :: ys), p3, ?_, .node k (decide (b = 0)) ys (by intro h0; rw [h0] at hyl; simp at hyl; omega) (by omega) hy⟩
  by_cases hb : b = 0
  · subst hb
    simp [nodeB, tS0, e1, hm, s1, e2, two_le, one_le, e3, hz]
  · obtain rfl : b = 1 := by omega
    simp [nodeB, tS0, e1, hm, s1, e2, two_le, one_le, e3, hz]
theorem term_ok (n : Nat) (hn1 : 1 ≤ n) (hn2 : n ≤ 100) (days : Int) (h1 : 0 ≤ days) (h2 : days ≤ 40000) (j : Nat) : ∀ (k : Nat) (room : Int), 1 ≤ room → room ≤ 8 → ∀ (p : Pool) (tl : MH),
    ∃ (t : PV) (p' : Pool), callN T (ne + 1) ns (j + 1 + k + 1) "_law_term" [.ref 0, .pv (.int n), .pv (.int days), .pv (.int (k + 1 : Nat)), .pv (.int room)] (p.mo :: tl) = .ok (.pv t) (p'.mo :: tl) ∧ WfT n k t := by
  have fin : ∀ (k : Nat) (lev room : Int) (p : Pool) (tl : MH) (t : PV) (p' : Pool), m_l_term (callN T (ne + 1) ns k) (tS0 n days lev room) (p.mo :: tl) = .ret (.pv t) (p'.mo :: tl) →
      callN T (ne + 1) ns (k + 1) "_law_term" [.ref 0, .pv (.int n), .pv (.int days), .pv (.int lev), .pv (.int room)] (p.mo :: tl) = .ok (.pv t) (p'.mo :: tl) := by
    intro k lev room p tl t p' e
    rw [c_l_term]
    show endR false _ (m_l_term _ (tS0 n days lev room) _) = _
    rw [e]
    simp
  have dk : ∀ k, DrawOk (callN T (ne + 1) ns (j + 1 + k)) := fun k => by
    rw [show j + 1 + k = (j + k) + 1 by omega]
    exact fun p m h1 h2 t => draw_ok _ p m h1 h2 t
  intro k
  induction k with
  | zero =>
    intro room hr1 hr2 p tl
    obtain ⟨b, p1, e1, hb⟩ := test_m _ (dk 0) n days (1 : Int) room p tl
    have : b = true := by cases b with
      | true => rfl
      | false => exact absurd rfl (hb rfl)
    subst this
    obtain ⟨t, p2, e2, ht⟩ := leaf_m _ (dk 0) n hn1 hn2 days 1 room h1 h2 0 p1 tl
    refine ⟨t, p2, fin _ _ _ _ _ _ _ ?_, ht⟩
    rw [term_split]
    show (sSeq _ _) (tS0 n days 1 room) _ = _
    simp only [sSeq_ap, sIf_ap, e1, st_ok, kFS_ap, if_true, e2, sq_ret]
  | succ k ih =>
    intro room hr1 hr2 p tl
    obtain ⟨b, p1, e1, hb⟩ := test_m _ (dk (k + 1)) n days ((k + 1 + 1 : Nat) : Int) room p tl
    cases b with
    | true =>
      obtain ⟨t, p2, e2, ht⟩ := leaf_m _ (dk (k + 1)) n hn1 hn2 days ((k + 1 + 1 : Nat) : Int) room h1 h2 (k + 1) p1 tl
      refine ⟨t, p2, fin _ _ _ _ _ _ _ ?_, ht⟩
      rw [term_split]
      simp only [sSeq_ap, sIf_ap, e1, st_ok, kFS_ap, if_true, e2, sq_ret]
    | false =>
      obtain ⟨t, p2, e2, ht⟩ := node_m _ (dk (k + 1)) n days ((k + 1 + 1 : Nat) : Int) room hr1 hr2 k (fun r h3 h4 p tl => by
        have := ih r h3 h4 p tl
        rw [show (((k + 1 + 1 : Nat) : Int)) - 1 = ((k + 1 : Nat) : Int) by omega]
        exact this) p1 tl
      refine ⟨t, p2, fin _ _ _ _ _ _ _ ?_, ht⟩
      rw [term_split]
      simp only [sSeq_ap, sIf_ap, e1, st_ok, kFS_ap, Bool.false_eq_true, if_false, sNx_ap, sq_nx, e2]
def tellV (N x : Int) : PV := if N ≤ x then .non else .int x
theorem tell_Rl {x y : Int} (h : Rl x y) : tellV NV x = tellV NW y := by
  unfold tellV
  rcases h with ⟨rfl, rfl⟩ | ⟨rfl, h1, h2⟩
  · simp
  · rw [if_neg (by unfold NV; omega), if_neg (by unfold NW; omega)]
theorem wd_pair (call : Call) (H : List (Option Int)) (h : MH) (b : Bool) (a c : PV) (x1 x2 : Int)
    (e1 : call "worth_day" [.pv a, .pv (HV H)] h = .ok (.pv (.int x1)) h) (e2 : call "worth_day" [.pv c, .pv (HV H)] h = .ok (.pv (.int x2)) h) :
    m_worth_day call [some (.pv (.tup [.str (if b = true then "latest" else "earliest"), a, c])), some (.pv (HV H)), none, none, none] h = .ret (.pv (.int (if b = true then (if x1 < x2 then x2 else x1) else (if x2 < x1 then x2 else x1)))) h := by
  classical
  have hga : (fun t => if t = a then x1 else x2) a = x1 := by simp
  have hgc : (fun t => if t = a then x1 else x2) c = x2 := by
    by_cases hc : c = a
    · subst hc
      have := e1.symm.trans e2
      simpa using this
    · simp [hc]
  refine wd_node call H h b [a, c] (fun t => if t = a then x1 else x2) (by simp) _ ?_ ?_
  · simp only [List.map_cons, List.map_nil, hga, hgc]
    cases b <;> rfl
  · intro t ht
    rcases List.mem_cons.1 ht with rfl | ht
    · simpa using e1
    · rcases List.mem_cons.1 ht with rfl | ht
      · have hgc' : (if t = a then x1 else x2) = x2 := hgc
        rw [hgc']; exact e2
      · cases ht
theorem told_ok (k : Nat) (x : Int) (h : MH) : callN T (ne + 1) ns (k + 1) "as_told" [.pv (.int x)] h = .ok (.pv (tellV NV x)) h := by
  have e : ∀ call : Call, m_as_told call [some (.pv (.int x))] h = .ret (.pv (tellV NV x)) h := by
    intro call
    unfold tellV
    by_cases hx : NV ≤ x
    · rw [if_pos hx]
      unfold NV at hx
      simp [m_as_told, hx]
    · rw [if_neg hx]
      unfold NV at hx
      simp [m_as_told, hx]
  rw [c_as_told]
  show endR false _ (m_as_told _ [some (.pv (.int x))] _) = _
  rw [e]
  simp
theorem day_ok (k : Nat) (x : Int) (h : MH) : callN T (ne + 1) ns (k + 2) "_law_day" [.pv (.int x)] h = .ok (.pv (tellV NW x)) h := by
  have e : ∀ call : Call, NeverOk call → m_l_day call [some (.pv (.int x))] h = .ret (.pv (tellV NW x)) h := by
    intro call hn
    have := hn h
    unfold tellV
    by_cases hx : NW ≤ x
    · rw [if_pos hx]
      simp [m_l_day, this, hx]
    · rw [if_neg hx]
      simp [m_l_day, this, hx]
  rw [c_l_day]
  show endR false _ (m_l_day _ [some (.pv (.int x))] _) = _
  rw [e _ (never_ok k)]
  simp
theorem worth_ok (k : Nat) (t H : PV) (x : Int) (h : MH) (e : callN T (ne + 1) ns (k + 1) "worth_day" [.pv t, .pv H] h = .ok (.pv (.int x)) h) : callN T (ne + 1) ns (k + 2) "worth" [.pv t, .pv H] h = .ok (.pv (tellV NV x)) h := by
  have e1 : ∀ call : Call, call "worth_day" [.pv t, .pv H] h = .ok (.pv (.int x)) h → call "as_told" [.pv (.int x)] h = .ok (.pv (tellV NV x)) h → m_worth call [some (.pv t), some (.pv H)] h = .ret (.pv (tellV NV x)) h := by
    intro call h1 h2
    simp [m_worth, h1, h2]
  rw [c_worth]
  show endR false _ (m_worth _ [some (.pv t), some (.pv H)] _) = _
  rw [e1 _ e (told_ok k x h)]
  simp
/-- what the law leans on -/
structure C6 (call : Call) : Prop where
  pool : ∀ xs : List Int, xs.length ≤ 63 → ∃ p : Pool, call "_law_pool" [.pv (.scr xs)] [] = .ok (.ref 0) [p.mo]
  draw : DrawOk call
  pick : ∀ (p : Pool) (xs : List PV), xs ≠ [] → xs.length ≤ 100 → ∃ x ∈ xs, ∃ p' : Pool, call "_law_pick" [.ref 0, .pv (.lst xs)] [p.mo] = .ok (.pv x) [p'.mo]
  term : ∀ (n : Nat) (days : Int) (k : Nat) (room : Int) (p : Pool), 1 ≤ n → n ≤ 5 → 0 ≤ days → days ≤ 40000 → k ≤ 3 → 1 ≤ room → room ≤ 8 →
    ∃ (t : PV) (p' : Pool), call "_law_term" [.ref 0, .pv (.int n), .pv (.int days), .pv (.int (k + 1 : Nat)), .pv (.int room)] [p.mo] = .ok (.pv t) [p'.mo] ∧ WfT n k t
  worth : ∀ (H : List (Option Int)), HOk H → ∀ (k : Nat) (t : PV), k ≤ 3 → WfT H.length k t → ∃ x y : Int, Rl x y ∧ (∀ h, call "worth" [.pv t, .pv (HV H)] h = .ok (.pv (tellV NV x)) h) ∧ (∀ h, call "_law_worth" [.pv t, .pv (HV H)] h = .ok (.pv (.int y)) h) ∧
    (∀ h, call "worth" [.pv (.tup [.str "earliest", .tup [.str "ever"], t]), .pv (HV H)] h = .ok (.pv (tellV NV x)) h) ∧ (∀ h, call "worth" [.pv (.tup [.str "latest", t, .tup [.str "ever"]]), .pv (HV H)] h = .ok (.pv .non) h)
  pair : ∀ (H : List (Option Int)), HOk H → ∀ (k : Nat) (t u : PV), k ≤ 3 → WfT H.length k t → WfT H.length k u → ∃ x y x' y' : Int, Rl x y ∧ Rl x' y' ∧ (∀ h, call "_law_worth" [.pv t, .pv (HV H)] h = .ok (.pv (.int y)) h) ∧ (∀ h, call "_law_worth" [.pv u, .pv (HV H)] h = .ok (.pv (.int y')) h) ∧
    (∀ h, call "worth" [.pv (.tup [.str "latest", t, u]), .pv (HV H)] h = .ok (.pv (tellV NV (if x < x' then x' else x))) h) ∧ (∀ h, call "worth" [.pv (.tup [.str "earliest", u, t]), .pv (HV H)] h = .ok (.pv (tellV NV (if x < x' then x else x'))) h)
  day : ∀ (x : Int) h, call "_law_day" [.pv (.int x)] h = .ok (.pv (tellV NW x)) h
  same : ∀ (x : Int) (h : MH), call "_law_same" [.pv (tellV NW x), .pv (tellV NW x)] h = .ok (.pv (.bl true)) h
theorem mn_comm (x y : Int) : (if y < x then y else x) = if x < y then x else y := by split <;> split <;> omega
theorem calls (k : Nat) : C6 (callN T (ne + 1) ns (k + 12)) where
  pool := fun xs hx => pool_ok (k + 11) xs hx
  draw := fun p m h1 h2 t => draw_ok (k + 11) p m h1 h2 t
  pick := fun p xs h0 h1 => pick_ok (k + 10) p (.lst xs) xs (.inl rfl) h0 (by omega) []
  term := fun n days j room p h1 h2 h3 h4 h5 h6 h7 => by
    have := term_ok n h1 (by omega) days h3 h4 (k + 10 - j) j room h6 h7 p []
    rw [show k + 10 - j + 1 + j + 1 = k + 12 by omega] at this
    exact this
  worth := fun H hH j t hj ht => by
    obtain ⟨x, y, hr, h1, h2⟩ := both H hH j t ht
    obtain ⟨x0, y0, hr0, h3, h4⟩ := both H hH j (.tup [.str "ever"]) (.ever j)
    have w1 : ∀ i h, callN T (ne + 1) ns (i + 5) "worth_day" [.pv t, .pv (HV H)] h = .ok (.pv (.int x)) h := fun i h => by
      have := h1 (i + 3 - j) h
      rw [show i + 3 - j + 1 + j + 1 = i + 5 by omega] at this
      exact this
    have w0 : ∀ i h, callN T (ne + 1) ns (i + 1) "worth_day" [.pv (.tup [.str "ever"]), .pv (HV H)] h = .ok (.pv (.int NV)) h := fun i h => c_wd _ _ _ _ _ (wd_ever _ H h)
    have l1 : ∀ i h, callN T (ne + 1) ns (i + 5) "_law_worth" [.pv t, .pv (HV H)] h = .ok (.pv (.int y)) h := fun i h => by
      have := h2 (i + 3 - j) h
      rw [show i + 3 - j + 1 + j + 1 = i + 5 by omega] at this
      exact this
    have hx : x ≤ NV := by rcases hr with ⟨rfl, _⟩ | ⟨_, _, h⟩
                           · exact Int.le_refl _
                           · unfold NV; omega
    refine ⟨x, y, hr, fun h => worth_ok (k + 10) _ _ _ h (w1 (k + 6) h), l1 (k + 7), fun h => ?_, fun h => ?_⟩
    · have e := c_wd (k + 10) _ _ h _ (wd_pair (callN T (ne + 1) ns (k + 10)) H h false (.tup [.str "ever"]) t NV x (w0 (k + 9) h) (w1 (k + 5) h))
      have e1 := worth_ok (k + 10) _ _ _ h e
      have e2 : (if x < NV then x else NV) = x := by split <;> omega
      simp only [Bool.false_eq_true, if_false, e2] at e1
      exact e1
    · have e := c_wd (k + 10) _ _ h _ (wd_pair (callN T (ne + 1) ns (k + 10)) H h true t (.tup [.str "ever"]) x NV (w1 (k + 5) h) (w0 (k + 9) h))
      have e1 := worth_ok (k + 10) _ _ _ h e
      have e2 : (if x < NV then NV else x) = NV := by split <;> omega
      have e3 : tellV NV NV = .non := if_pos (Int.le_refl _)
      simp only [if_true, e2, e3] at e1
      exact e1
  pair := fun H hH j t u hj ht hu => by
    obtain ⟨x, y, hr, h1, h2⟩ := both H hH j t ht
    obtain ⟨x', y', hr', h3, h4⟩ := both H hH j u hu
    have w1 : ∀ i h, callN T (ne + 1) ns (i + 5) "worth_day" [.pv t, .pv (HV H)] h = .ok (.pv (.int x)) h := fun i h => by
      have := h1 (i + 3 - j) h
      rw [show i + 3 - j + 1 + j + 1 = i + 5 by omega] at this
      exact this
    have w2 : ∀ i h, callN T (ne + 1) ns (i + 5) "worth_day" [.pv u, .pv (HV H)] h = .ok (.pv (.int x')) h := fun i h => by
      have := h3 (i + 3 - j) h
      rw [show i + 3 - j + 1 + j + 1 = i + 5 by omega] at this
      exact this
    refine ⟨x, y, x', y', hr, hr', fun h => ?_, fun h => ?_, fun h => ?_, fun h => ?_⟩
    · have := h2 (k + 10 - j) h
      rw [show k + 10 - j + 1 + j + 1 = k + 12 by omega] at this
      exact this
    · have := h4 (k + 10 - j) h
      rw [show k + 10 - j + 1 + j + 1 = k + 12 by omega] at this
      exact this
    · have e := c_wd (k + 10) _ _ h _ (wd_pair (callN T (ne + 1) ns (k + 10)) H h true t u x x' (w1 (k + 5) h) (w2 (k + 5) h))
      have e1 := worth_ok (k + 10) _ _ _ h e
      simp only [if_true] at e1
      exact e1
    · have e := c_wd (k + 10) _ _ h _ (wd_pair (callN T (ne + 1) ns (k + 10)) H h false u t x' x (w2 (k + 5) h) (w1 (k + 5) h))
      have e1 := worth_ok (k + 10) _ _ _ h e
      simp only [Bool.false_eq_true, if_false] at e1
      exact e1
  day := fun x h => day_ok (k + 10) x h
  same := fun x h => same_ok h (k + 11) _ (by unfold tellV; split <;> simp [PV.dep]) (by unfold tellV; split <;> simp [sameV])
theorem hist_of : ∀ ys : List PV, (∀ y ∈ ys, ∃ o : Option Int, y = encN o ∧ ∀ x, o = some x → 0 ≤ x ∧ x ≤ 1000000) → ∃ os : List (Option Int), ys = os.map encN ∧ HOk os
  | [], _ => ⟨[], rfl, fun _ h => nomatch h⟩
  | y :: ys, h => by
    obtain ⟨o, rfl, ho⟩ := h y (by simp)
    obtain ⟨os, rfl, hos⟩ := hist_of ys (fun z hz => h z (by simp [hz]))
    refine ⟨o :: os, rfl, fun o' ho' => ?_⟩
    rcases List.mem_cons.1 ho' with rfl | ho'
    · exact ho
    · exact hos o' ho'
def lS (xs : List Int) (x2 x3 x4 x5 x6 x7 x8 : Option SV) : Sl := [some (.pv (.scr xs)), some (.ref 0), x2, x3, x4, x5, x6, x7, x8, none]
theorem pick_days (call : Call) (C : C6 call) (p : Pool) : ∃ (m : Int) (p' : Pool), call "_law_pick" [.ref 0, .pv (.lst [.int 9, .int 40000])] [p.mo] = .ok (.pv (.int m)) [p'.mo] ∧ 0 ≤ m ∧ m ≤ 40000 := by
  obtain ⟨x, hx, p', e⟩ := C.pick p [.int 9, .int 40000] (by simp) (by simp)
  simp at hx
  rcases hx with rfl | rfl
  · exact ⟨9, p', e, by omega, by omega⟩
  · exact ⟨40000, p', e, by omega, by omega⟩
theorem law_0 (call : Call) (C : C6 call) (xs : List Int) (p : Pool) (x2 x3 x4 x5 x6 x7 x8 : Option SV) :
    ∃ x3' x4' x5' x6' x7' x8' p', lp_law_0 call (lS xs x2 x3 x4 x5 x6 x7 x8) [p.mo] = .nx (lS xs x2 x3' x4' x5' x6' x7' x8') [Pool.mo p'] := by
  have h24 : sizeLine = 16777216 := by decide
  obtain ⟨d, p1, hd1, hd2, e1⟩ := C.draw p 5 (by omega) (by omega) []
  obtain ⟨n, hn⟩ : ∃ n : Nat, 1 + d = (n : Int) := ⟨(1 + d).toNat, by omega⟩
  obtain ⟨a, p2, ha1, ha2, e2⟩ := C.draw p1 30 (by omega) (by omega) []
  obtain ⟨ys, h', e3, ⟨p3, rfl⟩, hy, hl⟩ := compLoop_all (tg := .name 9) (te := ce_law_1 call) (σ := lS xs x2 (some (.pv (.int n))) x4 x5 x6 x7 x8)
    (fun h => ∃ p : Pool, h = [p.mo]) (fun y => ∃ o : Option Int, y = encN o ∧ ∀ x, o = some x → 0 ≤ x ∧ x ≤ 1000000) (rangeL 1 (n - 1)) [] [p2.mo] (by simp [rangeL]; omega) ⟨p2, rfl⟩ (by
      rintro x hx h ⟨p3, rfl⟩
      obtain ⟨d3, p4, hd3, hd4, e4⟩ := C.draw p3 3 (by omega) (by omega) []
      by_cases hz : d3 = 0
      · subst hz
        exact ⟨_, rfl, .non, _, by simp [ce_law_1, lS, e4], ⟨none, rfl, by simp⟩, p4, rfl⟩
      · obtain ⟨d5, p5, hd5, hd6, e5⟩ := C.draw p4 30 (by omega) (by omega) []
        exact ⟨_, rfl, .int (30 + d5), _, by simp [ce_law_1, lS, e4, hz, e5], ⟨some (30 + d5), rfl, fun x hx => by cases hx; omega⟩, p5, rfl⟩)
  obtain ⟨os, rfl, hos⟩ := hist_of ys hy
  simp only [List.length_map] at hl
  have hlen : (some a :: os).length = n := by simp [hl, rangeL]; omega
  have hH : HOk (some a :: os) := by
    intro o ho
    rcases List.mem_cons.1 ho with rfl | ho
    · intro x hx; cases hx; omega
    · exact hos o ho
  generalize hHd : (some a :: os) = H at hlen hH
  have hHV : PV.tup (.int a :: os.map encN) = HV H := by rw [← hHd]; rfl
  obtain ⟨m1, p4, e4, hm1, hm2⟩ := pick_days call C p3
  obtain ⟨t1, p5, e5, ht1⟩ := C.term n m1 3 8 p4 (by omega) (by omega) hm1 hm2 (by omega) (by omega) (by omega)
  obtain ⟨m2, p6, e6, hm3, hm4⟩ := pick_days call C p5
  obtain ⟨t2, p7, e7, ht2⟩ := C.term n m2 2 8 p6 (by omega) (by omega) hm3 hm4 (by omega) (by omega) (by omega)
  obtain ⟨t3, p8, e8, ht3⟩ := C.term n 9 2 3 p7 (by omega) (by omega) (by omega) (by omega) (by omega) (by omega) (by omega)
  obtain ⟨t4, p9, e9, ht4⟩ := C.term n 9 2 4 p8 (by omega) (by omega) (by omega) (by omega) (by omega) (by omega) (by omega)
  rw [← hlen] at ht1 ht2 ht3 ht4
  obtain ⟨x1, y1, r1, w1, l1, _, _⟩ := C.worth H hH 3 t1 (by omega) ht1
  obtain ⟨x2', y2, r2, w2, l2, _, _⟩ := C.worth H hH 2 t2 (by omega) ht2
  obtain ⟨x3', y3, x4', y4, r3, r4, l3, l4, w3, w4⟩ := C.pair H hH 2 t3 t4 (by omega) ht3 ht4
  obtain ⟨x4'', y4', r4', w4', l4', w5, _⟩ := C.worth H hH 2 t4 (by omega) ht4
  obtain ⟨x3'', y3', r3', w3', l3', _, w6⟩ := C.worth H hH 2 t3 (by omega) ht3
  have y4e : y4' = y4 := by
    have := (l4' []).symm.trans (l4 [])
    simpa using this
  have mxr : Rl (if x3' < x4' then x4' else x3') (if y3 < y4 then y4 else y3) := Rl_op true r3 r4
  have mnr : Rl (if x3' < x4' then x3' else x4') (if y4 < y3 then y4 else y3) := by
    have := Rl_op false r3 r4
    simp only [Bool.false_eq_true, if_false] at this
    rw [mn_comm x3' x4'] at this
    exact this
  subst y4e
  have s1 : ∀ h, call "_law_same" [.pv (tellV NV x1), .pv (tellV NW y1)] h = .ok (.pv (.bl true)) h := fun h => by rw [tell_Rl r1]; exact C.same _ h
  have s2 : ∀ h, call "_law_same" [.pv (tellV NV x2'), .pv (tellV NW y2)] h = .ok (.pv (.bl true)) h := fun h => by rw [tell_Rl r2]; exact C.same _ h
  have s3 : ∀ h, call "_law_same" [.pv (tellV NV (if x3' < x4' then x4' else x3')), .pv (tellV NW (if y3 < y4' then y4' else y3))] h = .ok (.pv (.bl true)) h := fun h => by rw [tell_Rl mxr]; exact C.same _ h
  have s4 : ∀ h, call "_law_same" [.pv (tellV NV (if x3' < x4' then x3' else x4')), .pv (tellV NW (if y4' < y3 then y4' else y3))] h = .ok (.pv (.bl true)) h := fun h => by rw [tell_Rl mnr]; exact C.same _ h
  have s5 : ∀ h, call "_law_same" [.pv (tellV NV x4''), .pv (tellV NW y4')] h = .ok (.pv (.bl true)) h := fun h => by rw [tell_Rl r4']; exact C.same _ h
  have b1 : Sml (1 : Int) := sml_of (by omega) (by omega)
  have b2 : Sml (n : Int) := sml_of (by omega) (by omega)
  have z1 : 1 + os.length ≤ sizeLine := by
    have : os.length + 1 = n := by rw [← hlen, ← hHd]; simp
    omega
  refine ⟨some (.pv (.int n)), some (.pv (HV H)), some (.pv t3), some (.pv t4), some (.pv (.int y3)), some (.pv (.int y4')), p9, ?_⟩
  have k1 : ((3 + 1 : Nat) : Int) = 4 := rfl
  have k2 : ((2 + 1 : Nat) : Int) = 3 := rfl
  rw [k1] at e5
  rw [k2] at e7 e8 e9
  have dd := C.day
  simp only [lS, List.nil_append] at e3
  simp [lp_law_0, lS, e1, hn, e2, b1, b2, e3, one_le, two_le, three_le, z1, hHV, e4, e5, e6, e7, e8, e9, w1, w2, w3, w4, w5, w6, l1, l2, l3, l4, dd, s1, s2, s3, s4, s5]
theorem law_m (call : Call) (C : C6 call) (xs : List Int) (hx : xs.length ≤ 63) (hw : ∀ h, call "worth" [.pv (.tup [.str "after", .int 0, .int 40000]), .pv (.tup [.int 999999])] h = .ok (.pv (.int 1039999)) h) (hs : ∀ h, call "_law_same" [.pv (.int 1039999), .pv (.int 1039999)] h = .ok (.pv (.bl true)) h) :
    ∃ h', m_law call [some (.pv (.scr xs)), none, none, none, none, none, none, none, none, none] [] = .ret (.pv (.bl true)) h' := by
  obtain ⟨p, e1⟩ := C.pool xs hx
  obtain ⟨σ', h', eq, x2', x3', x4', x5', x6', x7', x8', p', rfl, rfl⟩ := for_range' (s := 2) (all := rangeL 0 10) (n := 10) (lo := 0) (body := lp_law_0 call)
    (fun _ σ h => ∃ (x2' x3' x4' x5' x6' x7' x8' : Option SV) (p' : Pool), σ = lS xs x2' x3' x4' x5' x6' x7' x8' ∧ h = [p'.mo])
    (by
      rintro i σ h hi ⟨x2', x3', x4', x5', x6', x7', x8', p', rfl, rfl⟩
      obtain ⟨_, _, _, _, _, _, p2, e2⟩ := law_0 call C xs p' (some (.pv (.int (0 + (i : Int))))) x3' x4' x5' x6' x7' x8'
      exact ⟨_, _, .inl e2, _, _, _, _, _, _, _, p2, rfl, rfl⟩)
    (lS xs none none none none none none none) [p.mo] ⟨none, none, none, none, none, none, none, p, rfl, rfl⟩
  refine ⟨[p'.mo], ?_⟩
  have s2 : Sml 10 := sml_of (by omega) (by omega)
  simp only [lS] at eq
  simp [m_law, e1, s2, eq, one_le, three_le, hw, hs]
theorem law_true : ∀ xs : List Int, xs.length ≤ 63 → ∃ h', callN T (ne + 1) ns depth "law" [.pv (.scr xs)] [] = .ok (.pv (.bl true)) h' := by
  intro xs hx
  have hw : ∀ h, callN T (ne + 1) ns 19 "worth" [.pv (.tup [.str "after", .int 0, .int 40000]), .pv (.tup [.int 999999])] h = .ok (.pv (.int 1039999)) h := fun h => by
    have e := c_wd 17 _ _ h _ (wd_aft (callN T (ne + 1) ns 17) [some 999999] h 0 40000 (by simp))
    have e1 := worth_ok 17 _ _ _ h e
    have e2 : tellV NV (aftV NV ([some 999999] : List (Option Int))[0] 40000) = .int 1039999 := by
      have e3 : aftV NV ([some 999999] : List (Option Int))[0] 40000 = 1039999 := rfl
      rw [e3]
      exact if_neg (by unfold NV; omega)
    rw [e2] at e1
    exact e1
  obtain ⟨h', e⟩ := law_m (callN T (ne + 1) ns 19) (calls 7) xs hx hw (fun h => same_ok h 18 (.int 1039999) (by simp [PV.dep]) (by simp [sameV]))
  refine ⟨h'.take 0, ?_⟩
  show callN T (ne + 1) ns (19 + 1) "law" _ _ = _
  rw [c_law]
  show endR false _ (m_law _ [some (.pv (.scr xs)), none, none, none, none, none, none, none, none, none] _) = _
  rw [e]
  simp
abbrev R : PySem.W.OpenRow := PySem.W.OpenLaw.row PySem.Challenge.rw_tilldust_k06_worth
def fa : List He.Fa := fasOf ents kons
def fn : List He.DefD := ents.map Ent.d
abbrev hk : PySem.W.Hook := He.hookD 4 fa fn
def ob (s : PySem.W.SharedT) : He.AlD := He.obsDG 4 fa fn (HandSHeadRun.getT s)
theorem ob_eq (s : PySem.W.SharedT) : ob s = hk.obs s.abs := He.obsDG_eq (HandSHeadRun.getT_eq s)
def loose : List PySem.Str := (["NEVER", "as_told", "worth_day", "worth", "_law_pool", "_law_draw", "_law_pick", "_law_same", "_law_never", "_law_day", "_law_worth", "_law_term"] : List PySem.Str)
theorem run (w : World) : HandSHeadRun.RunEq R (PySem.W.view R.prog [15]) hk ob 600 loose w := by
  intro os
  kernel_rfl
theorem law_binds {fd : FuncData} {K : PySem.W.Frag} {f : Addr} (FD : FunD K e_law.name e_law.name e_law.params e_law.body e_law.scope [] [] f fd) (s : Shared) (u : Value) : BindsTo s fd ⟨[u], []⟩ [("script", u)] :=
  FD.bindsA (ps := ["script"]) (fun _ _ _ _ _ _ us hl => match us, hl with | [_], _ => rfl) s [u] rfl
end Hd
open PySem PySem.W PySem.Calls PyProof.Rows in
set_option maxRecDepth 100000 in
set_option maxHeartbeats 0 in
theorem PySem.Challenge.cw_tilldust_k06_worth_holds : PySem.Challenge.rw_tilldust_k06_worth.Holds := by
  w_on; o_law
  refine HandSHeadRun.head_any (r := OpenLaw.row PySem.Challenge.rw_tilldust_k06_worth) (q := view (OpenLaw.row PySem.Challenge.rw_tilldust_k06_worth).prog [15]) (H := Hd.hk) (ob := Hd.ob) (M := 600) (loose := Hd.loose) (d := HandSHeadRun.topDef (OpenLaw.row PySem.Challenge.rw_tilldust_k06_worth).prog 15) (kwd := []) Hd.ob_eq
    (by kernel_rfl) (fun s => by kernel_rfl) Hd.run (by kernel_rfl) (by kernel_rfl) (by kernel_rfl) (by rfl) (by first | assumption | decide +kernel) (by decide +kernel) ⟨rfl, rfl, rfl, rfl, rfl, by decide +kernel⟩ ?hw ?hc
  case hw => w_witness2
  case hc =>
    refine L2.walk_ofE (l := PySem.Challenge.rw_tilldust_k06_worth) (n := 63) (k := Hd.depth) (x := "script") (CX := L2.CX0) rfl (by decide) (by kernel_rfl) ⟨rfl, by decide, by decide⟩ ?F (fun _ _ _ _ z => z)
    intro w mg fa h Y G hmg0
    obtain ⟨K, KX, c⟩ := Y
    have hmg : mg ("law" : PySem.Str) = some (.ref fa) := by
      have e : (HandSHeadRun.topDef (OpenLaw.row PySem.Challenge.rw_tilldust_k06_worth).prog 15).name = ("law" : PySem.Str) := by kernel_rfl
      rw [← e]
      exact hmg0
    have gf := Pv.gf_of (T := Hd.T) (es := Hd.ents) (ks := Hd.kons) rfl rfl Hd.ents_ok KX G c
    obtain ⟨i, hi⟩ := List.getElem?_of_mem (show Hd.e_law.d ∈ Hd.ents.map Pv.Ent.d from List.mem_map_of_mem (by simp [Hd.ents]))
    obtain ⟨fd, FD⟩ := c.def_ i hi
    have hglo := He.glo_ok KX G (c.fact 11 (f := .glo "law") rfl)
    have efa := hmg.symm.trans hglo
    cases efa
    have hlook : Hd.T.fns.lookup ("law" : PySem.Str) = some Hd.e_law.fi.2 := by kernel_rfl
    refine ⟨K, fd, fun vs H Q _ => Pv.spM K mg (Pv.callN Hd.T (Hd.ne + 1) Hd.ns Hd.depth "law") 1 vs H Q (fun _ _ _ => False), KX, fun s v => Hd.law_binds FD s v, fun H a ns hl _ hS => Pv.law_end (T := Hd.T) (ne := Hd.ne) (ns := Hd.ns) (k := Hd.depth) (f := "law") Hd.law_true H a ns hl hS, fun base _ _ => ?_⟩
    obtain ⟨a', fd', hm', _, _, _, F', oc', od', osl', lk'⟩ := Pv.fns_ok (P := (PySem.Challenge.rw_tilldust_k06_worth).prog) (w := w) (base := base) gf Hd.ne Hd.ns Hd.depth "law" _ hlook
    have ea := hglo.symm.trans hm'
    cases ea
    obtain ⟨oc, od, osl, lk⟩ := FD.look
    have el := lk.symm.trans lk'
    injection el with el
    injection el with _ _ el _
    injection el with el
    rw [el]
    exact Pv.FnOk.nox F'
