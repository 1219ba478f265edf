import PyProof.Rows.All
import Wide.All
import OpenK.AllK
import Wide.FinOn
import HandS.ForMost
import HandS.IsInst
import HandS.Wide
import HandS.Conv
import PyProof.Rows.ChunkLeaf
import HandS.More
import HandS.Style
import HandS.WideMore
import HandS.Base
import HandS.Call
import HandS.Ends
import HandS.Codes
import HandS.Defaults
import HandS.HeadHook1
import HandS.HeadHook2
import HandS.HeadEnd
import HandS.Head0
import HandS.Head1
import HandS.Head2
import KE.KStateDown
import PySem.Challenge.RW_warbleline_k21_numbers_on_the_ring
set_option Elab.async false
set_option linter.all false
set_option maxRecDepth 100000
/-! A small language over value-like data, and its evaluator. -/
namespace Wb
open PySem

/-- data: lists in it are never changed; .ref is a thing of the abstract heap -/
inductive D where
  | non | bl (b : Bool) | int (i : Int) | str (s : Str) | tup (xs : List D) | lst (xs : List D) | scr (xs : List Int) | ref (t : Nat)
/-- what a slot or a field holds: a value, or a list of its own -/
inductive FV where
  | val (d : D) | own (xs : List D)
/-- what an expression gives: a value, a new list, the look at a slot's own list -/
inductive RV where
  | val (d : D) | own (xs : List D) | brw (xs : List D)
inductive AO where
  | lst (xs : List D)
  | ins (c : Nat) (fs : List (Nat × FV))
abbrev AH := List AO
abbrev Sl := List (Option FV)
inductive Xc where
  | mk (c : Nat) (fs : List (Nat × D))
inductive Res (α : Type) where
  | ok (a : α) (h : AH) | exc (x : Xc) (h : AH) | stuck
abbrev M (α : Type) := AH → Res α
def M.bind {α β : Type} (m : M α) (k : α → M β) : M β := fun h => match m h with
  | .ok a h' => k a h'
  | .exc x h' => .exc x h'
  | .stuck => .stuck
def M.pure {α : Type} (a : α) : M α := fun h => .ok a h
instance : Monad M where
  pure := M.pure
  bind := M.bind
def stuck {α : Type} : M α := fun _ => .stuck
@[simp] theorem bind_ok {α β : Type} {m : M α} {k : α → M β} {h h' : AH} {a : α} (e : m h = .ok a h') : (m >>= k) h = k a h' := by
  show M.bind m k h = _
  unfold M.bind; rw [e]
theorem bind_def {α β : Type} (m : M α) (k : α → M β) (h : AH) : (m >>= k) h = match m h with
  | .ok a h' => k a h'
  | .exc x h' => .exc x h'
  | .stuck => .stuck := rfl
@[simp] theorem pure_def {α : Type} (a : α) (h : AH) : (pure a : M α) h = .ok a h := rfl
@[simp] theorem stuck_def {α : Type} (h : AH) : (stuck : M α) h = .stuck := rfl
def guardM (c : Prop) [Decidable c] : M Unit := fun h => if c then .ok () h else .stuck
def getH : M AH := fun h => .ok h h
def setH (h : AH) : M Unit := fun _ => .ok () h
def opt {α : Type} (o : Option α) : M α := fun h => match o with
  | some a => .ok a h
  | none => .stuck

/-! ### operators -/
inductive BinO where
  | add | sub | mul | fdiv | mod | pow | shl | shr | band | bor | bxor
  | eq | ne | lt | le | gt | ge | isIn | notIn | ix
  deriving DecidableEq
inductive UnO where
  | neg | not_ | isN | notN
  deriving DecidableEq
inductive Cls where
  | int | bool | str | list | tuple
  deriving DecidableEq
inductive BltO where
  | len | abs | min2 | max2 | minL | maxL | sumL | list_ | tuple_ | all_ | int_ | str_ | isi (cs : List Cls)
  deriving DecidableEq

def D.isFlat : D → Bool
  | .non => true | .bl _ => true | .int _ => true | .str _ => true | _ => false
/-- the class of a value, as isinstance asks -/
def D.kind (ah : AH) : D → Option Cls
  | .bl _ => some .bool
  | .int _ => some .int
  | .str _ => some .str
  | .lst _ => some .list
  | .scr _ => some .list
  | .tup _ => some .tuple
  | .ref t => match ah[t]? with
    | some (.lst _) => some .list
    | _ => none
  | .non => none
def Cls.under : Cls → Cls → Bool
  | .bool, .int => true
  | a, b => a == b

mutual
def D.py (ah : AH) : D → Option PyData
  | .non => some .none
  | .bl b => some (.bool b)
  | .int i => some (.int i)
  | .str s => some (.str s)
  | .tup xs => (pyL ah xs).map .tuple
  | .lst xs => (pyL ah xs).map .list
  | .scr xs => some (.list (xs.map .int))
  | .ref _ => none
def pyL (ah : AH) : List D → Option (List PyData)
  | [] => some []
  | d :: r => match d.py ah, pyL ah r with
    | some p, some ps => some (p :: ps)
    | _, _ => none
end
/-- a list's items at the top may be a thing of the heap -/
def RV.py (ah : AH) : RV → Option PyData
  | .val (.ref t) => match ah[t]? with
    | some (.lst xs) => (pyL ah xs).map .list
    | _ => none
  | .val d => d.py ah
  | .own xs => (pyL ah xs).map .list
  | .brw xs => (pyL ah xs).map .list
def RV.lst (ah : AH) : RV → Option (List D)
  | .val (.lst xs) => some xs
  | .val (.ref t) => match ah[t]? with
    | some (.lst xs) => some xs
    | _ => none
  | .own xs => some xs
  | .brw xs => some xs
  | _ => none
/-- a list (also the script) or a tuple, read -/
def RV.seq (ah : AH) : RV → Option (List D)
  | .val (.tup xs) => some xs
  | .val (.scr xs) => some (xs.map .int)
  | r => r.lst ah
/-- as a value: a new list is frozen -/
def RV.toD : RV → Option D
  | .val d => some d
  | .own xs => some (.lst xs)
  | .brw _ => none
abbrev vI (i : Int) : RV := .val (.int i)
abbrev vB (b : Bool) : RV := .val (.bl b)

def ixAt (xs : List D) (i : Int) : Option D := L2.atI xs i
def cutD (xs : List D) (lo hi : Option Int) : List D :=
  (xs.drop (HT.sIx xs.length 0 lo)).take (HT.sIx xs.length xs.length hi - HT.sIx xs.length 0 lo)
/-- == of flat values -/
def eqF : D → D → Bool
  | .non, .non => true
  | .bl a, .bl b => a == b
  | .bl a, .int b => (if a then 1 else 0) == b
  | .int a, .bl b => a == (if b then 1 else 0)
  | .int a, .int b => a == b
  | .str a, .str b => a == b
  | _, _ => false
def inFlat (x : D) (xs : List D) : Bool := xs.any fun y => eqF y x

def intOp (op : BinO) (i j : Int) : M RV := match op with
  | .add => pure (vI (i + j))
  | .sub => pure (vI (i - j))
  | .mul => do guardM ((-(2 ^ 64) < i ∧ i < 2 ^ 64) ∨ (-(2 ^ 64) < j ∧ j < 2 ^ 64)); pure (vI (i * j))
  | .fdiv => do guardM (0 < j ∧ j < 2 ^ 1000); pure (vI (i / j))
  | .mod => do guardM (0 < j); pure (vI (i % j))
  | .pow => do guardM (0 ≤ j ∧ j ≤ 1000000 ∧ i.natAbs < 2 ^ 64); pure (vI (i ^ j.toNat))
  | .shl => do guardM (0 ≤ j ∧ j ≤ 1000000 ∧ i.natAbs < 2 ^ 64); pure (vI (i * 2 ^ j.toNat))
  | .shr => do guardM (0 ≤ j); pure (vI (i / 2 ^ j.toNat))
  | .band => pure (vI (Builtin.bitAnd i j))
  | .bor => pure (vI (Builtin.bitOr i j))
  | .bxor => pure (vI (Builtin.bitXor i j))
  | .eq => pure (vB (i == j))
  | .ne => pure (vB (!(i == j)))
  | .lt => pure (vB (decide (i < j)))
  | .le => pure (vB (decide (i ≤ j)))
  | .gt => pure (vB (decide (j < i)))
  | .ge => pure (vB (decide (j ≤ i)))
  | _ => stuck
def binSem (op : BinO) (a b : RV) : M RV := match a, b with
  | .val (.int i), .val (.int j) => intOp op i j
  | _, _ => match op with
    | .add => do
      let h ← getH
      let xs ← opt (a.lst h)
      let ys ← opt (b.lst h)
      guardM (xs.length + ys.length ≤ sizeLine)
      pure (.own (xs ++ ys))
    | .mul => match b with
      | .val (.int k) => do
        let h ← getH
        let xs ← opt (a.lst h)
        guardM (-(2 ^ 63) ≤ k ∧ k < 2 ^ 63 ∧ xs.length * k.toNat ≤ sizeLine)
        pure (.own (List.replicate k.toNat xs).flatten)
      | _ => stuck
    | .eq => do
      let h ← getH
      let p ← opt (a.py h)
      let q ← opt (b.py h)
      guardM (SeqAt.shaped p = true ∧ SeqAt.shaped q = true)
      pure (vB (PyData.eqv p q))
    | .ne => do
      let h ← getH
      let p ← opt (a.py h)
      let q ← opt (b.py h)
      guardM (SeqAt.shaped p = true ∧ SeqAt.shaped q = true)
      pure (vB (!PyData.eqv p q))
    | .ix => match b with
      | .val (.int i) => do
        let h ← getH
        let xs ← opt (a.seq h)
        let d ← opt (ixAt xs i)
        pure (.val d)
      | _ => stuck
    | .isIn => match a with
      | .val x => do
        let h ← getH
        let xs ← opt (b.seq h)
        guardM (x.isFlat = true ∧ xs.all D.isFlat = true)
        pure (vB (inFlat x xs))
      | _ => stuck
    | .notIn => match a with
      | .val x => do
        let h ← getH
        let xs ← opt (b.seq h)
        guardM (x.isFlat = true ∧ xs.all D.isFlat = true)
        pure (vB (!inFlat x xs))
      | _ => stuck
    | _ => stuck
def D.isNon : D → Bool
  | .non => true
  | _ => false
def unSem (op : UnO) (a : RV) : M RV := match op, a with
  | .neg, .val (.int i) => pure (vI (-i))
  | .not_, .val (.bl b) => pure (vB (!b))
  | .isN, .val d => pure (vB d.isNon)
  | .notN, .val d => pure (vB (!d.isNon))
  | _, _ => stuck
def allBl : List D → Option Bool
  | [] => some true
  | .bl b :: r => (allBl r).map fun c => b && c
  | _ => none
def allInts : List D → Option (List Int)
  | [] => some []
  | .int i :: r => (allInts r).map fun c => i :: c
  | _ => none
def bltSem (f : BltO) (vs : List RV) : M RV := match f, vs with
  | .len, [a] => do
    let h ← getH
    let xs ← opt (a.seq h)
    pure (vI xs.length)
  | .abs, [.val (.int i)] => pure (vI (if i < 0 then -i else i))
  | .min2, [.val (.int i), .val (.int j)] => pure (vI (if j < i then j else i))
  | .max2, [.val (.int i), .val (.int j)] => pure (vI (if j > i then j else i))
  | .list_, [a] => do
    let h ← getH
    let xs ← opt (a.seq h)
    pure (.own xs)
  | .tuple_, [a] => do
    let h ← getH
    let xs ← opt (a.seq h)
    pure (.val (.tup xs))
  | .all_, [a] => do
    let h ← getH
    let xs ← opt (a.lst h)
    let b ← opt (allBl xs)
    pure (vB b)
  | .isi cs, [.val d] => do
    let h ← getH
    match d with
    | .non => pure (vB false)
    | _ => do
      let k ← opt (d.kind h)
      pure (vB (cs.any fun c => k.under c))
  | .isi cs, [.own _] => pure (vB (cs.any fun c => Cls.list.under c))
  | _, _ => stuck

/-! ### the language -/
inductive TG where
  | nm (i : Nat) | tup (ts : List TG)
mutual
inductive ME where
  | var (i : Nat)
  | cst (d : D)
  | glb (x : Str) (d : D)
  | bin (op : BinO) (a b : ME)
  | una (op : UnO) (a : ME)
  | chn (o1 o2 : BinO) (a b c : ME)
  | and_ (a b : ME) | or_ (a b : ME)
  | ite (c a b : ME)
  | lst (xs : MEs) | tup (xs : MEs)
  | cut (a : ME) (lo hi : MO)
  | blt (f : BltO) (xs : MEs)
  | call (g : Nat) (xs : MEs)
  | cmp (e : ME) (tg : List Nat) (it : MI) (c : MO) (ws : List Nat)
inductive MEs where | nil | cons (a : ME) (r : MEs)
inductive MO where | no | yes (a : ME)
/-- what a for or a comprehension walks -/
inductive MI where
  | seq (e : ME) | rng1 (a : ME) | rng2 (a b : ME) | rng3 (a b c : ME) | enum (e : ME) | zip (a b : ME)
end
/-- methods of an own list -/
inductive LMo where | append | insert0 | pop | clear
mutual
inductive MS where
  | set (i : Nat) (e : ME)
  | own (i : Nat) (e : ME)
  | heap (i : Nat) (e : ME)
  | par (tg : List Nat) (e : ME)
  | par2 (i j : Nat) (a b : ME)
  | par3 (i j k : Nat) (a b c : ME)
  | aug (i : Nat) (op : BinO) (e : ME)
  | meth (i : Nat) (m : LMo) (xs : MEs)
  | setIx (i : Nat) (k e : ME)
  | setHx (o k e : ME)
  | hmeth (o : ME) (m : LMo) (xs : MEs)
  | expr (e : ME)
  | ret (e : ME) | retN
  | iff (c : ME) (a b : MSs)
  | whl (c : ME) (b : MSs)
  | for_ (tg : List Nat) (it : MI) (b : MSs)
  | pass | brk | cnt
  | frz (i : Nat)
inductive MSs where | nil | cons (s : MS) (r : MSs)
end
abbrev Callee := Nat → List D → M RV

def wipe (sl : Sl) : List Nat → Sl
  | [] => sl
  | i :: r => (wipe sl r).set i none
/-- the target of a for or a comprehension: one name, or names for the items of a tuple -/
def assign (tg : List Nat) (d : D) (sl : Sl) : Option Sl := match tg with
  | [i] => if i < sl.length then some (sl.set i (some (.val d))) else none
  | [i, j] => match d with
    | .tup [a, b] => if i < sl.length ∧ j < sl.length then some ((sl.set i (some (.val a))).set j (some (.val b))) else none
    | _ => none
  | [i, j, k] => match d with
    | .tup [a, b, c] => if i < sl.length ∧ j < sl.length ∧ k < sl.length then some (((sl.set i (some (.val a))).set j (some (.val b))).set k (some (.val c))) else none
    | _ => none
  | _ => none
def asInt : RV → M Int
  | .val (.int i) => pure i
  | _ => stuck
def asBl : RV → M Bool
  | .val (.bl b) => pure b
  | _ => stuck
def asD (r : RV) : M D := opt r.toD
def asV : RV → M D
  | .val d => pure d
  | _ => stuck
def chk62 (i : Int) : Prop := -(2 ^ 62) ≤ i ∧ i < 2 ^ 62
instance (i : Int) : Decidable (chk62 i) := by unfold chk62; infer_instance
def rngL (lo : Int) (c : Int) : Nat → List D
  | 0 => []
  | n + 1 => .int lo :: rngL (lo + c) c n
def enumL : Nat → List D → List D
  | _, [] => []
  | i, d :: r => .tup [.int i, d] :: enumL (i + 1) r
def zipL : List D → List D → List D
  | a :: r, b :: q => .tup [a, b] :: zipL r q
  | _, _ => []
/-- a walked source: a value (it never changes) -/
def srcD (d : D) : M (List D) := fun h => match d with
  | .lst xs => .ok xs h
  | .tup xs => .ok xs h
  | .scr xs => .ok (xs.map .int) h
  | _ => .stuck
/-- a list alone -/
def srcS (d : D) : M (List D) := fun h => match d with
  | .lst xs => .ok xs h
  | .scr xs => .ok (xs.map .int) h
  | _ => .stuck
/-- the items of a comprehension, behind those that are there -/
def compL (turn : D → M (Option D)) : List D → List D → M (List D)
  | acc, [] => pure acc
  | acc, d :: r => do
    let o ← turn d
    match o with
    | some y => do guardM (acc.length < sizeLine); compL turn (acc ++ [y]) r
    | none => compL turn acc r

mutual
def evalE (C : Callee) : ME → Sl → M RV
  | .var i, sl => fun h => match sl[i]? with
    | some (some (.val d)) => .ok (.val d) h
    | some (some (.own xs)) => .ok (.brw xs) h
    | _ => .stuck
  | .cst d, _ => pure (.val d)
  | .glb _ d, _ => pure (.val d)
  | .bin op a b, sl => do let x ← evalE C a sl; let y ← evalE C b sl; binSem op x y
  | .una op a, sl => do let x ← evalE C a sl; unSem op x
  | .chn o1 o2 a b c, sl => do
    let x ← evalE C a sl
    let y ← evalE C b sl
    let r ← binSem o1 x y
    let k ← asBl r
    if k then do let z ← evalE C c sl; binSem o2 y z else pure (vB false)
  | .and_ a b, sl => do
    let x ← evalE C a sl
    let k ← asBl x
    if k then evalE C b sl else pure (vB false)
  | .or_ a b, sl => do
    let x ← evalE C a sl
    let k ← asBl x
    if k then pure (vB true) else evalE C b sl
  | .ite c a b, sl => do
    let x ← evalE C c sl
    let k ← asBl x
    if k then evalE C a sl else evalE C b sl
  | .lst xs, sl => do
    let ds ← evalDs C xs sl
    guardM (ds.length ≤ sizeLine)
    pure (.own ds)
  | .tup xs, sl => do
    let ds ← evalDs C xs sl
    guardM (ds.length ≤ sizeLine)
    pure (.val (.tup ds))
  | .cut a lo hi, sl => do
    let x ← evalE C a sl
    let l ← evalO C lo sl
    let u ← evalO C hi sl
    let h ← getH
    match x with
    | .val (.tup xs) => do
      guardM (¬ (HT.sIx xs.length 0 l = 0 ∧ HT.sIx xs.length xs.length u = xs.length))
      pure (.val (.tup (cutD xs l u)))
    | .val (.scr xs) => pure (.own (cutD (xs.map .int) l u))
    | _ => do
      let xs ← opt (x.lst h)
      pure (.own (cutD xs l u))
  | .blt f xs, sl => do let vs ← evalEs C xs sl; bltSem f vs
  | .call g xs, sl => do
    let ds ← evalDs C xs sl
    C g ds
  | .cmp e tg it c ws, sl => do
    let items ← evalI C it sl
    let ys ← compL (fun d => do
      let sl2 ← opt (assign tg d (wipe sl ws))
      let k ← evalC C c sl2
      if k then do let d' ← (do let y ← evalE C e sl2; asD y); pure (some d') else pure none) [] items
    pure (.own ys)
/-- a comprehension's test -/
def evalC (C : Callee) : MO → Sl → M Bool
  | .no, _ => pure true
  | .yes t, sl => do let x ← evalE C t sl; asBl x
def evalEs (C : Callee) : MEs → Sl → M (List RV)
  | .nil, _ => pure []
  | .cons a r, sl => do let x ← evalE C a sl; let xs ← evalEs C r sl; pure (x :: xs)
def evalDs (C : Callee) : MEs → Sl → M (List D)
  | .nil, _ => pure []
  | .cons a r, sl => do let d ← (do let x ← evalE C a sl; asD x); let ds ← evalDs C r sl; pure (d :: ds)
def evalO (C : Callee) : MO → Sl → M (Option Int)
  | .no, _ => pure none
  | .yes a, sl => do let x ← evalE C a sl; let i ← asInt x; pure (some i)
def evalI (C : Callee) : MI → Sl → M (List D)
  | .seq e, sl => do let d ← (do let x ← evalE C e sl; asD x); srcD d
  | .rng1 a, sl => do
    let x ← evalE C a sl
    let i ← asInt x
    guardM (chk62 i)
    pure (rngL 0 1 i.toNat)
  | .rng2 a b, sl => do
    let x ← evalE C a sl
    let y ← evalE C b sl
    let i ← asInt x
    let j ← asInt y
    guardM (chk62 i ∧ chk62 j)
    pure (rngL i 1 (j - i).toNat)
  | .rng3 a b c, sl => do
    let x ← evalE C a sl
    let y ← evalE C b sl
    let z ← evalE C c sl
    let i ← asInt x
    let j ← asInt y
    let k ← asInt z
    guardM (k ≠ 0 ∧ k.natAbs < 1073741824 ∧ Builtin.Range.small i j k = true)
    pure (rngL i k (Builtin.Range.rangeSize i j k).toNat)
  | .enum e, sl => do let d ← (do let x ← evalE C e sl; asD x); let xs ← srcS d; pure (enumL 0 xs)
  | .zip a b, sl => do
    let d ← (do let x ← evalE C a sl; asD x)
    let e ← (do let x ← evalE C b sl; asD x)
    let xs ← srcS d
    let ys ← srcS e
    pure (zipL xs ys)
end

inductive Fl where
  | nx | rt (v : RV) | bk | ct
inductive ResF where
  | ok (f : Fl) (sl : Sl) (h : AH) | exc (x : Xc) (sl : Sl) (h : AH) | stuck
abbrev MF := AH → ResF
/-- an expression ahead of the rest of a statement -/
def andE {α : Type} (sl : Sl) (m : M α) (k : α → MF) : MF := fun h => match m h with
  | .ok a h' => k a h'
  | .exc x h' => .exc x sl h'
  | .stuck => .stuck
def seqF (m : MF) (k : Sl → MF) : MF := fun h => match m h with
  | .ok .nx sl h' => k sl h'
  | r => r
def retF (f : Fl) (sl : Sl) : MF := fun h => .ok f sl h
def loopF (turn : D → Sl → MF) : List D → Sl → MF
  | [], sl => retF .nx sl
  | d :: r, sl => fun h => match turn d sl h with
    | .ok .nx sl' h' => loopF turn r sl' h'
    | .ok .ct sl' h' => loopF turn r sl' h'
    | .ok .bk sl' h' => .ok .nx sl' h'
    | r => r
def loopW (test : Sl → M Bool) (turn : Sl → MF) : Nat → Sl → MF
  | 0, _ => fun _ => .stuck
  | n + 1, sl => andE sl (test sl) fun k =>
    if k then fun h => match turn sl h with
      | .ok .nx sl' h' => loopW test turn n sl' h'
      | .ok .ct sl' h' => loopW test turn n sl' h'
      | .ok .bk sl' h' => .ok .nx sl' h'
      | r => r
    else retF .nx sl
/-- turns of a while at most -/
@[irreducible] def wMost : Nat := 1000000
def put (i : Nat) (v : FV) (sl : Sl) : MF := fun h => if i < sl.length then .ok .nx (sl.set i (some v)) h else .stuck
def ownOf (r : RV) : M (List D) := match r with
  | .own xs => pure xs
  | _ => stuck
def slotOwn (i : Nat) (sl : Sl) : M (List D) := match sl[i]? with
  | some (some (.own xs)) => pure xs
  | _ => stuck
def methL (m : LMo) (xs : List D) (vs : List D) : M (RV × List D) := match m, vs with
  | .append, [v] => do guardM (xs.length < sizeLine); pure (.val .non, xs ++ [v])
  | .insert0, [v] => do guardM (xs.length < sizeLine); pure (.val .non, v :: xs)
  | .pop, [] => match xs.getLast? with
    | some v => pure (.val v, xs.dropLast)
    | none => stuck
  | .clear, [] => pure (.val .non, [])
  | _, _ => stuck
def setAt (xs : List D) (i : Int) (d : D) : Option (List D) := (L2.ixN xs.length i).map fun j => xs.set j d
def heapL (r : RV) : M (Nat × List D) := fun h => match r with
  | .val (.ref t) => match h[t]? with
    | some (.lst xs) => .ok (t, xs) h
    | _ => .stuck
  | _ => .stuck
def setHeap (t : Nat) (xs : List D) : M Unit := fun h => .ok () (h.set t (.lst xs))
def newHeap (xs : List D) : M Nat := fun h => .ok h.length (h ++ [.lst xs])
/-- what a return hands out: an own slot's list goes along -/
def RV.out : RV → RV
  | .brw xs => .own xs
  | r => r

mutual
def execS (C : Callee) : MS → Sl → MF
  | .set i e, sl => andE sl (do let x ← evalE C e sl; asD x) fun d => put i (.val d) sl
  | .own i e, sl => andE sl (do let x ← evalE C e sl; ownOf x) fun xs => put i (.own xs) sl
  | .heap i e, sl => andE sl (do let x ← evalE C e sl; let xs ← ownOf x; newHeap xs) fun t => put i (.val (.ref t)) sl
  | .par tg e, sl => andE sl (do let d ← (do let x ← evalE C e sl; asD x); opt (assign tg d sl)) fun sl2 => retF .nx sl2
  | .par2 i j a b, sl => andE sl (do
      let d ← (do let x ← evalE C a sl; asD x)
      let e ← (do let x ← evalE C b sl; asD x)
      guardM (i < sl.length ∧ j < sl.length)
      pure (d, e)) fun p => retF .nx ((sl.set i (some (.val p.1))).set j (some (.val p.2)))
  | .par3 i j k a b c, sl => andE sl (do
      let d ← (do let x ← evalE C a sl; asD x)
      let e ← (do let x ← evalE C b sl; asD x)
      let f ← (do let x ← evalE C c sl; asD x)
      guardM (i < sl.length ∧ j < sl.length ∧ k < sl.length)
      pure (d, e, f)) fun p => retF .nx (((sl.set i (some (.val p.1))).set j (some (.val p.2.1))).set k (some (.val p.2.2)))
  | .aug i op e, sl => andE sl (do
      let x ← evalE C (.var i) sl
      let a ← asInt x
      let y ← evalE C e sl
      let b ← asInt y
      let r ← intOp op a b
      asV r) fun d => put i (.val d) sl
  | .meth i m xs, sl => andE sl (do
      let ys ← slotOwn i sl
      let ds ← evalDs C xs sl
      methL m ys ds) fun p => put i (.own p.2) sl
  | .setIx i k e, sl => andE sl (do
      let d ← (do let y ← evalE C e sl; asD y)
      let ys ← slotOwn i sl
      let x ← evalE C k sl
      let n ← asInt x
      opt (setAt ys n d)) fun zs => put i (.own zs) sl
  | .setHx o k e, sl => andE sl (do
      let d ← (do let y ← evalE C e sl; asD y)
      let p ← evalE C o sl
      let x ← evalE C k sl
      let n ← asInt x
      let q ← heapL p
      let zs ← opt (setAt q.2 n d)
      setHeap q.1 zs) fun _ => retF .nx sl
  | .hmeth o m xs, sl => andE sl (do
      let p ← evalE C o sl
      let _ ← heapL p
      let ds ← evalDs C xs sl
      let q ← heapL p
      let r ← methL m q.2 ds
      setHeap q.1 r.2) fun _ => retF .nx sl
  | .expr e, sl => andE sl (evalE C e sl) fun _ => retF .nx sl
  | .ret e, sl => andE sl (evalE C e sl) fun x => retF (.rt x.out) sl
  | .retN, sl => retF (.rt (.val .non)) sl
  | .iff c a b, sl => andE sl (do let x ← evalE C c sl; asBl x) fun k => if k then execB C a sl else execB C b sl
  | .whl c b, sl => loopW (fun sl => do let x ← evalE C c sl; asBl x) (fun sl => execB C b sl) wMost sl
  | .for_ tg it b, sl => andE sl (evalI C it sl) fun items =>
      loopF (fun d sl => andE sl (opt (assign tg d sl)) fun sl2 => execB C b sl2) items sl
  | .pass, sl => retF .nx sl
  | .brk, sl => retF .bk sl
  | .cnt, sl => retF .ct sl
  | .frz i, sl => andE sl (slotOwn i sl) fun xs => put i (.val (.lst xs)) sl
def execB (C : Callee) : MSs → Sl → MF
  | .nil, sl => retF .nx sl
  | .cons s r, sl => seqF (execS C s sl) fun sl' => execB C r sl'
end
structure Fn where
  np : Nat
  ns : Nat
  body : MSs
def callF (C : Callee) (f : Fn) (args : List D) : M RV := fun h =>
  if args.length = f.np then
    match execB C f.body (args.map (fun d => some (.val d)) ++ List.replicate (f.ns - f.np) none) h with
    | .ok .nx _ h' => .ok (.val .non) h'
    | .ok (.rt v) _ h' => .ok v.out h'
    | .exc x _ h' => .exc x h'
    | _ => .stuck
  else .stuck
def callK (P : Nat → Option Fn) : Nat → Callee
  | 0, _, _ => stuck
  | k + 1, g, args => match P g with
    | some f => callF (callK P k) f args
    | none => stuck
end Wb

set_option maxHeartbeats 4000000
/-! What the evaluator's data mean over the layer's heap. -/
namespace Wb
open PySem PySem.Spec L2

/-- a state of both sides: the layer's heap, the abstract heap, where its things stand, the lists that are never changed -/
structure Wd where
  H : Hp
  ah : AH
  m : Nat → Addr
  F : Addr → Prop
def Wd.mut (S : Wd) (a : Addr) : Prop := ∃ t, t < S.ah.length ∧ a = S.m t

/-- a list that nobody here changes: the module's own one -/
def KL (K : PySem.W.Frag) (a : Addr) (xs : List V) : Prop :=
  ∃ (o : Obj) (its : Array Value) (n : Nat), K.lookup a = some o ∧ o.cls = .type "list" ∧ o.dict = none ∧ o.data = .seq its n ∧ its.size ≤ sizeLine ∧ Vals xs its.toList
/-- the script's place -/
def ScL (K : PySem.W.Frag) (H : Hp) (a : Addr) (xs : List V) : Prop := (∃ o, H a = some (.frz o (.lst xs))) ∨ KL K a xs
theorem ScL.sqL {K : PySem.W.Frag} {H : Hp} {a : Addr} {xs : List V} (h : ScL K H a xs) : SqL K H a xs := by
  rcases h with ⟨o, h⟩ | h
  · exact .inl (.inr ⟨o, h⟩)
  · exact .inr h
section
variable (K : PySem.W.Frag)
mutual
def Rep (S : Wd) : D → V → Prop
  | .non, v => v = .non
  | .bl b, v => v = .bl b
  | .int i, v => v = .int i
  | .str s, v => v = .str s
  | .scr xs, v => ∃ a, v = .ref a ∧ ScL K S.H a (xs.map V.int)
  | .tup ds, v => ∃ a vs, v = .ref a ∧ SqT K S.H a vs ∧ Reps S ds vs
  | .lst ds, v => ∃ a vs, v = .ref a ∧ S.H a = some (.lst vs) ∧ S.F a ∧ Reps S ds vs
  | .ref t, v => t < S.ah.length ∧ v = .ref (S.m t)
def Reps (S : Wd) : List D → List V → Prop
  | [], vs => vs = []
  | d :: ds, vs => ∃ v vs', vs = v :: vs' ∧ Rep S d v ∧ Reps S ds vs'
end
def AORep (S : Wd) (t : Nat) : AO → Prop
  | .lst xs => ∃ vs, S.H (S.m t) = some (.lst vs) ∧ Reps K S xs vs
  | .ins _ _ => False
structure WOk (S : Wd) : Prop where
  obj : ∀ t o, S.ah[t]? = some o → AORep K S t o
  inj : ∀ t u, t < S.ah.length → u < S.ah.length → S.m t = S.m u → t = u
  fz : ∀ a, S.F a → (∃ vs, S.H a = some (.lst vs)) ∧ ¬ S.mut a
/-- from S to S', where the lists at T may be changed and frozen -/
structure ExtT (T : Addr → Prop) (S S' : Wd) : Prop where
  len : S.ah.length ≤ S'.ah.length
  m : ∀ t, t < S.ah.length → S'.m t = S.m t
  keep : ∀ a o, S.H a = some o → ¬ S.mut a → ¬ T a → S'.H a = some o
  dom : ∀ a, S'.H a = none → S.H a = none
  frz : ∀ a, S.F a → S'.F a
  new : ∀ a, S'.F a ∨ S'.mut a → S.F a ∨ S.mut a ∨ S.H a = none ∨ T a
abbrev Ext (S S' : Wd) : Prop := ExtT (fun _ => False) S S'
end
variable {K : PySem.W.Frag} {S S1 S2 S' S0 : Wd} {T T1 : Addr → Prop}
theorem WOk.mutL (ok : WOk K S) {a : Addr} (h : S.mut a) : ∃ vs, S.H a = some (.lst vs) := by
  obtain ⟨t, ht, rfl⟩ := h
  have e : S.ah[t]? = some S.ah[t] := List.getElem?_eq_getElem ht
  have q := ok.obj t _ e
  cases h : S.ah[t] with
  | lst xs => rw [h] at q; obtain ⟨vs, q, _⟩ := q; exact ⟨vs, q⟩
  | ins c fs => rw [h] at q; exact q.elim
theorem ExtT.refl (S : Wd) : ExtT T S S := ⟨Nat.le_refl _, fun _ _ => rfl, fun _ _ h _ _ => h, fun _ h => h, fun _ h => h, fun _ h => h.elim .inl fun z => .inr (.inl z)⟩
theorem Ext.refl (S : Wd) : Ext S S := ExtT.refl S
theorem ExtT.trans (ok1 : WOk K S1) (a : ExtT T S S1) (b : ExtT T1 S1 S2) (sub : ∀ c, T1 c → T c ∨ S.H c = none) : ExtT T S S2 where
  len := Nat.le_trans a.len b.len
  m := fun t ht => (b.m t (Nat.lt_of_lt_of_le ht a.len)).trans (a.m t ht)
  keep := fun c o h n nt => by
    refine b.keep c o (a.keep c o h n nt) (fun z => ?_) fun z => ?_
    · rcases a.new c (.inr z) with q | q | q | q
      · exact (ok1.fz c (a.frz c q)).2 z
      · exact n q
      · rw [q] at h; cases h
      · exact nt q
    · rcases sub c z with q | q
      · exact nt q
      · rw [q] at h; cases h
  dom := fun c h => a.dom c (b.dom c h)
  frz := fun c h => b.frz c (a.frz c h)
  new := fun c h => by
    rcases b.new c h with q | q | q | q
    · exact a.new c (.inl q)
    · exact a.new c (.inr q)
    · exact .inr (.inr (.inl (a.dom c q)))
    · rcases sub c q with q | q
      · exact .inr (.inr (.inr q))
      · exact .inr (.inr (.inl q))
theorem Ext.trans (ok1 : WOk K S1) (a : Ext S S1) (b : Ext S1 S2) : Ext S S2 := ExtT.trans ok1 a b fun _ z => z.elim
theorem ExtT.any (a : Ext S S1) : ExtT T S S1 := ⟨a.len, a.m, fun c o h n _ => a.keep c o h n id, a.dom, a.frz, fun c h => by
  rcases a.new c h with q | q | q | q
  · exact .inl q
  · exact .inr (.inl q)
  · exact .inr (.inr (.inl q))
  · exact q.elim⟩
theorem ExtT.sqT (ok : WOk K S) (e : ExtT T S S') (nt : ∀ a, T a → ∃ vs, S.H a = some (.lst vs)) {a : Addr} {vs : List V} (h : SqT K S.H a vs) : SqT K S'.H a vs := by
  rcases h with (h | ⟨o, h⟩) | h
  · refine .inl (.inl (e.keep a _ h (fun z => ?_) fun z => ?_))
    · obtain ⟨ws, q⟩ := ok.mutL z
      rw [h] at q; cases q
    · obtain ⟨ws, q⟩ := nt a z
      rw [h] at q; cases q
  · refine .inl (.inr ⟨o, e.keep a _ h (fun z => ?_) fun z => ?_⟩)
    · obtain ⟨ws, q⟩ := ok.mutL z
      rw [h] at q; cases q
    · obtain ⟨ws, q⟩ := nt a z
      rw [h] at q; cases q
  · exact .inr h
/-- lists of somebody's own: not frozen -/
structure Tok (T : Addr → Prop) (S : Wd) : Prop where
  lst : ∀ a, T a → ∃ vs, S.H a = some (.lst vs)
  nfr : ∀ a, T a → ¬ S.F a
theorem Tok.none (S : Wd) : Tok (fun _ => False) S := ⟨fun _ z => z.elim, fun _ z => z.elim⟩
mutual
theorem Rep.monoT (ok : WOk K S) (e : ExtT T S S') (tk : Tok T S) : ∀ (d : D) (v : V), Rep K S d v → Rep K S' d v
  | .non, v, h => h
  | .bl b, v, h => h
  | .int i, v, h => h
  | .str s, v, h => h
  | .scr xs, v, h => by
    unfold Rep at h ⊢
    obtain ⟨a, rfl, h⟩ := h
    refine ⟨a, rfl, ?_⟩
    rcases h with ⟨o, h⟩ | h
    · refine .inl ⟨o, e.keep a _ h (fun z => ?_) fun z => ?_⟩
      · obtain ⟨ws, q⟩ := ok.mutL z
        rw [h] at q; cases q
      · obtain ⟨ws, q⟩ := tk.lst a z
        rw [h] at q; cases q
    · exact .inr h
  | .tup ds, v, h => by
    unfold Rep at h ⊢
    obtain ⟨a, vs, rfl, h, r⟩ := h
    exact ⟨a, vs, rfl, e.sqT ok tk.lst h, Reps.monoT ok e tk ds vs r⟩
  | .lst ds, v, h => by
    unfold Rep at h ⊢
    obtain ⟨a, vs, rfl, h, f, r⟩ := h
    exact ⟨a, vs, rfl, e.keep a _ h (ok.fz a f).2 fun z => tk.nfr a z f, e.frz a f, Reps.monoT ok e tk ds vs r⟩
  | .ref t, v, h => by
    unfold Rep at h ⊢
    obtain ⟨h, rfl⟩ := h
    exact ⟨Nat.lt_of_lt_of_le h e.len, by rw [e.m t h]⟩
theorem Reps.monoT (ok : WOk K S) (e : ExtT T S S') (tk : Tok T S) : ∀ (ds : List D) (vs : List V), Reps K S ds vs → Reps K S' ds vs
  | [], vs, h => h
  | d :: ds, vs, h => by
    unfold Reps at h ⊢
    obtain ⟨v, vs', rfl, a, b⟩ := h
    exact ⟨v, vs', rfl, Rep.monoT ok e tk d v a, Reps.monoT ok e tk ds vs' b⟩
end
theorem Rep.mono (ok : WOk K S) (e : Ext S S') (d : D) (v : V) (h : Rep K S d v) : Rep K S' d v := Rep.monoT ok e (Tok.none S) d v h
theorem Reps.mono (ok : WOk K S) (e : Ext S S') (d : List D) (v : List V) (h : Reps K S d v) : Reps K S' d v := Reps.monoT ok e (Tok.none S) d v h
theorem Reps.length : ∀ {ds : List D} {vs : List V}, Reps K S ds vs → ds.length = vs.length
  | [], vs, h => by unfold Reps at h; subst h; rfl
  | d :: ds, vs, h => by
    unfold Reps at h
    obtain ⟨v, vs', rfl, _, b⟩ := h
    simp [Reps.length b]
theorem Reps.nil : Reps K S [] [] := by unfold Reps; rfl
theorem Reps.cons {d : D} {v : V} {ds : List D} {vs : List V} (a : Rep K S d v) (b : Reps K S ds vs) : Reps K S (d :: ds) (v :: vs) := by
  unfold Reps; exact ⟨v, vs, rfl, a, b⟩
theorem Reps.append : ∀ {ds es : List D} {vs ws : List V}, Reps K S ds vs → Reps K S es ws → Reps K S (ds ++ es) (vs ++ ws)
  | [], es, vs, ws, h, q => by unfold Reps at h; subst h; exact q
  | d :: ds, es, vs, ws, h, q => by
    unfold Reps at h
    obtain ⟨v, vs', rfl, a, b⟩ := h
    exact Reps.cons a (Reps.append b q)
theorem Reps.get : ∀ {ds : List D} {vs : List V} {i : Nat} {d : D}, Reps K S ds vs → ds[i]? = some d → ∃ v, vs[i]? = some v ∧ Rep K S d v
  | [], vs, i, d, h, e => by simp at e
  | d' :: ds, vs, 0, d, h, e => by
    unfold Reps at h
    obtain ⟨v, vs', rfl, a, b⟩ := h
    simp at e; subst e
    exact ⟨v, rfl, a⟩
  | d' :: ds, vs, i + 1, d, h, e => by
    unfold Reps at h
    obtain ⟨v, vs', rfl, a, b⟩ := h
    simp at e
    obtain ⟨w, q, r⟩ := Reps.get b e
    exact ⟨w, by simpa using q, r⟩
theorem Reps.getV : ∀ {ds : List D} {vs : List V} {i : Nat} {v : V}, Reps K S ds vs → vs[i]? = some v → ∃ d, ds[i]? = some d ∧ Rep K S d v := fun {ds vs i v} h e => by
  have hl := h.length
  have hi : i < vs.length := (List.getElem?_eq_some_iff.mp e).1
  have e' : ds[i]? = some (ds[i]'(by omega)) := List.getElem?_eq_getElem _
  obtain ⟨w, q, r⟩ := h.get e'
  rw [e] at q; cases q
  exact ⟨_, e', r⟩
theorem Reps.set {d : D} {v : V} (r : Rep K S d v) : ∀ {ds : List D} {vs : List V} (i : Nat), Reps K S ds vs → Reps K S (ds.set i d) (vs.set i v)
  | [], vs, i, h => by unfold Reps at h; subst h; exact Reps.nil
  | d' :: ds, vs, 0, h => by
    unfold Reps at h
    obtain ⟨v', vs', rfl, a, b⟩ := h
    exact Reps.cons r b
  | d' :: ds, vs, i + 1, h => by
    unfold Reps at h
    obtain ⟨v', vs', rfl, a, b⟩ := h
    exact Reps.cons a (Reps.set r i b)
theorem Reps.drop : ∀ {ds : List D} {vs : List V} (n : Nat), Reps K S ds vs → Reps K S (ds.drop n) (vs.drop n)
  | ds, vs, 0, h => h
  | [], vs, n + 1, h => by unfold Reps at h; subst h; exact Reps.nil
  | d :: ds, vs, n + 1, h => by
    unfold Reps at h
    obtain ⟨v, vs', rfl, a, b⟩ := h
    exact Reps.drop n b
theorem Reps.take : ∀ {ds : List D} {vs : List V} (n : Nat), Reps K S ds vs → Reps K S (ds.take n) (vs.take n)
  | ds, vs, 0, h => Reps.nil
  | [], vs, n + 1, h => by unfold Reps at h; subst h; exact Reps.nil
  | d :: ds, vs, n + 1, h => by
    unfold Reps at h
    obtain ⟨v, vs', rfl, a, b⟩ := h
    exact Reps.cons a (Reps.take n b)
theorem Reps.ints : ∀ (xs : List Int), Reps K S (xs.map .int) (xs.map V.int)
  | [] => Reps.nil
  | x :: xs => Reps.cons (by unfold Rep; rfl) (Reps.ints xs)
theorem Reps.rep {ds : List D} {vs : List V} (h : Reps K S ds vs) : ∀ n : Nat, Reps K S (List.replicate n ds).flatten (List.replicate n vs).flatten
  | 0 => Reps.nil
  | n + 1 => by
    rw [List.replicate_succ, List.replicate_succ, List.flatten_cons, List.flatten_cons]
    exact h.append (Reps.rep h n)

/-- a list of its own at a: no other value leads there; it is younger than S0 -/
def OwnAt (K : PySem.W.Frag) (S0 S : Wd) (a : Addr) (xs : List D) : Prop :=
  ∃ vs, S.H a = some (.lst vs) ∧ Reps K S xs vs ∧ ¬ S.F a ∧ ¬ S.mut a ∧ S0.H a = none
theorem OwnAt.monoT (ok : WOk K S) (e : ExtT T S S') (tk : Tok T S) {a : Addr} {xs : List D} (h : OwnAt K S0 S a xs) (na : ¬ T a) : OwnAt K S0 S' a xs := by
  obtain ⟨vs, h1, r, f, m, z⟩ := h
  have n : ∀ q : S'.F a ∨ S'.mut a, False := fun q => by
    rcases e.new a q with q | q | q | q
    · exact f q
    · exact m q
    · rw [q] at h1; cases h1
    · exact na q
  exact ⟨vs, e.keep a _ h1 m na, Reps.monoT ok e tk _ _ r, fun q => n (.inl q), fun q => n (.inr q), z⟩
theorem OwnAt.mono (ok : WOk K S) (e : Ext S S') {a : Addr} {xs : List D} (h : OwnAt K S0 S a xs) : OwnAt K S0 S' a xs := h.monoT ok e (Tok.none S) id
theorem OwnAt.back (e : ExtT T S0 S1) {a : Addr} {xs : List D} (h : OwnAt K S1 S a xs) : OwnAt K S0 S a xs := by
  obtain ⟨vs, h1, r, f, m, z⟩ := h
  exact ⟨vs, h1, r, f, m, e.dom a z⟩

/-- the slots of a frame that began at S0 -/
structure SlRep (K : PySem.W.Frag) (S0 S : Wd) (sl : Wb.Sl) (σ : L2.St) : Prop where
  len : sl.length = σ.length
  ext : Ext S0 S
  val : ∀ (i : Nat) (d : D), sl[i]? = some (some (FV.val d)) → ∃ v, σ[i]? = some (some v) ∧ Rep K S d v
  own : ∃ oa : Nat → Addr, (∀ (i : Nat) (xs : List D), sl[i]? = some (some (FV.own xs)) → σ[i]? = some (some (.ref (oa i))) ∧ OwnAt K S0 S (oa i) xs) ∧
    ∀ (i j : Nat) (xs ys : List D), sl[i]? = some (some (FV.own xs)) → sl[j]? = some (some (FV.own ys)) → oa i = oa j → i = j
theorem SlRep.mono {sl : Wb.Sl} {σ : L2.St} (ok : WOk K S) (e : Ext S S') (h : SlRep K S0 S sl σ) : SlRep K S0 S' sl σ := by
  obtain ⟨l, x, v, oa, o, d⟩ := h
  refine ⟨l, Ext.trans ok x e, fun i d hi => ?_, oa, fun i xs hi => ?_, d⟩
  · obtain ⟨u, q, r⟩ := v i d hi
    exact ⟨u, q, Rep.mono ok e _ _ r⟩
  · obtain ⟨q, r⟩ := o i xs hi
    exact ⟨q, r.mono ok e⟩
theorem set_get {α : Type} {l : List α} {i j : Nat} {a : α} (h : i < l.length) : (l.set i a)[j]? = if i = j then some a else l[j]? := by
  rw [List.getElem?_set]
  split
  · simp [*]
  · rfl
/-- a slot is set to a value -/
theorem SlRep.set {sl : Wb.Sl} {σ : L2.St} {i : Nat} {d : D} {v : V} (h : SlRep K S0 S sl σ) (r : Rep K S d v) : SlRep K S0 S (sl.set i (some (.val d))) (σ.set i (some v)) := by
  obtain ⟨l, x, q, oa, o, ne⟩ := h
  have inv : ∀ j xs, (sl.set i (some (.val d)))[j]? = some (some (.own xs)) → sl[j]? = some (some (.own xs)) ∧ i ≠ j := fun j xs e => by
    rw [List.getElem?_set] at e
    split at e
    · split at e <;> cases e
    · exact ⟨e, by assumption⟩
  refine ⟨by simp [l], x, fun j d' e => ?_, oa, fun j xs e => ?_, fun j k xs ys e e' => ne j k xs ys (inv _ _ e).1 (inv _ _ e').1⟩
  · rw [List.getElem?_set] at e ⊢
    rw [l] at e
    split at e
    · split at e
      · cases e
        rename_i h1 h2
        rw [if_pos h1, if_pos h2]
        exact ⟨v, rfl, r⟩
      · cases e
    · rename_i h1
      rw [if_neg h1]
      exact q j d' e
  · obtain ⟨e, n⟩ := inv _ _ e
    obtain ⟨a, b⟩ := o j xs e
    exact ⟨by rw [List.getElem?_set_ne n]; exact a, b⟩
/-- a slot is set to a list of its own -/
theorem SlRep.setOwn {sl : Wb.Sl} {σ : L2.St} {i : Nat} {a : Addr} {xs : List D} (h : SlRep K S0 S sl σ) (r : OwnAt K S0 S a xs)
    (ne : ∀ (j : Nat) (ys : List D), j ≠ i → sl[j]? = some (some (.own ys)) → σ[j]? ≠ some (some (.ref a))) : SlRep K S0 S (sl.set i (some (.own xs))) (σ.set i (some (.ref a))) := by
  obtain ⟨l, x, q, oa, o, nd⟩ := h
  by_cases hi : i < sl.length
  · refine ⟨by simp [l], x, fun j d' e => ?_, fun j => if j = i then a else oa j, fun j ys e => ?_, fun j k ys zs e e' => ?_⟩
    · rw [set_get hi] at e
      rw [set_get (by omega)]
      split at e
      · cases e
      · rename_i h1
        rw [if_neg h1]
        exact q j d' e
    · rw [set_get hi] at e
      rw [set_get (by omega)]
      by_cases hj : i = j
      · subst hj
        rw [if_pos rfl] at e ⊢
        cases e
        simp [r]
      · rw [if_neg hj] at e ⊢
        dsimp only
        rw [if_neg (Ne.symm hj)]
        exact o j ys e
    · rw [set_get hi] at e e'
      intro z
      by_cases hj : i = j
      · by_cases hk : i = k
        · omega
        · subst hj
          rw [if_neg hk] at e'
          simp only [if_pos, if_neg (Ne.symm hk)] at z
          exact absurd (by rw [z]; exact (o k zs e').1) (ne k zs (Ne.symm hk) e')
      · by_cases hk : i = k
        · subst hk
          rw [if_neg hj] at e
          simp only [if_pos, if_neg (Ne.symm hj)] at z
          exact absurd (by rw [← z]; exact (o j ys e).1) (ne j ys (Ne.symm hj) e)
        · rw [if_neg hj] at e
          rw [if_neg hk] at e'
          simp only [if_neg (Ne.symm hj), if_neg (Ne.symm hk)] at z
          exact nd j k ys zs e e' z
  · have e1 : sl.set i (some (.own xs)) = sl := List.set_eq_of_length_le (by omega)
    have e2 : σ.set i (some (.ref a)) = σ := List.set_eq_of_length_le (by omega)
    rw [e1, e2]
    exact ⟨l, x, q, oa, o, nd⟩

/-! ### what an expression gives -/
/-- S0: the frame's beginning; S: ahead of the expression; S': behind it -/
def RVRep (K : PySem.W.Frag) (S0 S S' : Wd) : RV → V → Prop
  | .val d, v => Rep K S' d v
  | .own xs, v => ∃ a, v = .ref a ∧ OwnAt K S S' a xs
  | .brw xs, v => ∃ a, v = .ref a ∧ OwnAt K S0 S' a xs
theorem RVRep.mono {r : RV} {v : V} (ok : WOk K S1) (e : Ext S1 S2) (h : RVRep K S0 S S1 r v) : RVRep K S0 S S2 r v := by
  cases r with
  | val d => exact Rep.mono ok e d v h
  | own xs => obtain ⟨a, q, r⟩ := h; exact ⟨a, q, r.mono ok e⟩
  | brw xs => obtain ⟨a, q, r⟩ := h; exact ⟨a, q, r.mono ok e⟩
theorem RVRep.back {r : RV} {v : V} (e : ExtT T S S1) (h : RVRep K S0 S1 S' r v) : RVRep K S0 S S' r v := by
  cases r with
  | val d => exact h
  | own xs => obtain ⟨a, q, r⟩ := h; exact ⟨a, q, r.back e⟩
  | brw xs => exact h

/-! ### the evaluator's outcome as what is wanted -/
def Wp {α : Type} (K : PySem.W.Frag) (E : Xc → Wd → Prop) (m : M α) (S : Wd) (post : α → Wd → Prop) : Prop := match m S.ah with
  | .ok a h' => ∀ S', Ext S S' → WOk K S' → S'.ah = h' → post a S'
  | .exc x h' => ∀ S', Ext S S' → WOk K S' → S'.ah = h' → E x S'
  | .stuck => False
variable {E : Xc → Wd → Prop} {α β : Type}
theorem Wp.mono {m : M α} {p q : α → Wd → Prop} (h : Wp K E m S p) (hq : ∀ a S', Ext S S' → WOk K S' → p a S' → q a S') : Wp K E m S q := by
  unfold Wp at h ⊢
  cases e : m S.ah with
  | ok a h' => rw [e] at h; exact fun S' x o z => hq a S' x o (h S' x o z)
  | exc x h' => rw [e] at h; exact h
  | stuck => rw [e] at h; exact h
theorem Wp.bind {m : M α} {k : α → M β} {p : β → Wd → Prop} (h : Wp K E (m >>= k) S p) : Wp K E m S fun a S1 => Wp K E (k a) S1 p := by
  unfold Wp at h ⊢
  rw [bind_def] at h
  cases e : m S.ah with
  | ok a h' =>
    rw [e] at h
    intro S1 x1 o1 z1
    subst z1
    dsimp only at h ⊢
    cases e2 : k a S1.ah with
    | ok b h2 => rw [e2] at h; exact fun S2 x2 o2 z2 => h S2 (Ext.trans o1 x1 x2) o2 z2
    | exc b h2 => rw [e2] at h; exact fun S2 x2 o2 z2 => h S2 (Ext.trans o1 x1 x2) o2 z2
    | stuck => rw [e2] at h; exact h
  | exc x h' => rw [e] at h; exact h
  | stuck => rw [e] at h; exact h
theorem Wp.pure {a : α} {p : α → Wd → Prop} (ok : WOk K S) (h : Wp K E (Pure.pure a : M α) S p) : p a S := h S (Ext.refl S) ok rfl
theorem Wp.guard {c : Prop} [Decidable c] {k : Unit → M β} {p : β → Wd → Prop} (ok : WOk K S) (h : Wp K E (guardM c >>= k) S p) : c ∧ Wp K E (k ()) S p := by
  unfold Wp at h
  rw [bind_def] at h
  by_cases hc : c
  · refine ⟨hc, ?_⟩
    simp only [guardM, if_pos hc] at h
    exact h
  · simp only [guardM, if_neg hc] at h
theorem Wp.getH {k : AH → M β} {p : β → Wd → Prop} (h : Wp K E (Wb.getH >>= k) S p) : Wp K E (k S.ah) S p := h
theorem Wp.opt {o : Option α} {k : α → M β} {p : β → Wd → Prop} (h : Wp K E (Wb.opt o >>= k) S p) : ∃ a, o = some a ∧ Wp K E (k a) S p := by
  unfold Wp at h
  rw [bind_def] at h
  cases o with
  | none => exact h.elim
  | some a => exact ⟨a, rfl, h⟩
end Wb

set_option maxHeartbeats 4000000
set_option exponentiation.threshold 2000
/-! The operators of the evaluator against the layer's rules. -/
namespace Wb
open PySem PySem.Spec L2
variable {K : PySem.W.Frag} {S S1 S2 S' S0 Sa : Wd} {E : Xc → Wd → Prop}

/-! ### reading -/
theorem lst_rd (ok : WOk K S) {r : RV} {v : V} {xs : List D} (h : RVRep K S0 Sa S r v) (e : r.lst S.ah = some xs) : ∃ a vs, v = .ref a ∧ S.H a = some (.lst vs) ∧ Reps K S xs vs := by
  unfold RV.lst at e
  split at e
  · cases e
    unfold RVRep Rep at h
    obtain ⟨a, vs, rfl, h1, _, r⟩ := h
    exact ⟨a, vs, rfl, h1, r⟩
  · split at e
    · cases e
      rename_i q
      unfold RVRep Rep at h
      obtain ⟨h1, rfl⟩ := h
      obtain ⟨vs, h2, r⟩ := ok.obj _ _ q
      exact ⟨_, vs, rfl, h2, r⟩
    · cases e
  · cases e
    obtain ⟨a, rfl, vs, h1, r, _⟩ := h
    exact ⟨a, vs, rfl, h1, r⟩
  · cases e
    obtain ⟨a, rfl, vs, h1, r, _⟩ := h
    exact ⟨a, vs, rfl, h1, r⟩
  · cases e
theorem seq_rd (ok : WOk K S) {r : RV} {v : V} {xs : List D} (h : RVRep K S0 Sa S r v) (e : r.seq S.ah = some xs) : ∃ a vs, v = .ref a ∧ (SqL K S.H a vs ∨ SqT K S.H a vs) ∧ Reps K S xs vs := by
  unfold RV.seq at e
  split at e
  · cases e
    unfold RVRep Rep at h
    obtain ⟨a, vs, rfl, h1, r⟩ := h
    exact ⟨a, vs, rfl, .inr h1, r⟩
  · cases e
    rename_i ns
    unfold RVRep Rep at h
    obtain ⟨a, rfl, h1⟩ := h
    exact ⟨a, _, rfl, .inl h1.sqL, Reps.ints ns⟩
  · obtain ⟨a, vs, rfl, h1, r⟩ := lst_rd ok h e
    exact ⟨a, vs, rfl, .inl (.of h1), r⟩
mutual
theorem py_rd (ok : WOk K S) : ∀ (d : D) (v : V) (p : PyData), Rep K S d v → d.py S.ah = some p → Dp K S.H v p
  | .non, v, p, h, e => by unfold Rep at h; unfold D.py at e; cases e; subst h; exact .non
  | .bl b, v, p, h, e => by unfold Rep at h; unfold D.py at e; cases e; subst h; exact .bl b
  | .int b, v, p, h, e => by unfold Rep at h; unfold D.py at e; cases e; subst h; exact .int b
  | .str b, v, p, h, e => by unfold Rep at h; unfold D.py at e; cases e; subst h; exact .str b
  | .scr xs, v, p, h, e => by
    unfold Rep at h; unfold D.py at e; cases e
    obtain ⟨a, rfl, h1⟩ := h
    refine .lst h1.sqL ?_
    clear h1
    induction xs with
    | nil => exact .nil
    | cons x xs ih => exact .cons (.int x) ih
  | .tup xs, v, p, h, e => by
    unfold Rep at h; unfold D.py at e
    obtain ⟨a, vs, rfl, h1, r⟩ := h
    cases q : pyL S.ah xs with
    | none => rw [q] at e; cases e
    | some ps => rw [q] at e; cases e; exact .tup h1 (pyL_rd ok xs vs ps r q)
  | .lst xs, v, p, h, e => by
    unfold Rep at h; unfold D.py at e
    obtain ⟨a, vs, rfl, h1, _, r⟩ := h
    cases q : pyL S.ah xs with
    | none => rw [q] at e; cases e
    | some ps => rw [q] at e; cases e; exact .lst (.of h1) (pyL_rd ok xs vs ps r q)
  | .ref t, v, p, h, e => by unfold D.py at e; cases e
theorem pyL_rd (ok : WOk K S) : ∀ (ds : List D) (vs : List V) (ps : List PyData), Reps K S ds vs → pyL S.ah ds = some ps → DpAll K S.H vs ps
  | [], vs, ps, h, e => by unfold Reps at h; unfold pyL at e; cases e; subst h; exact .nil
  | d :: ds, vs, ps, h, e => by
    unfold Reps at h
    obtain ⟨v, vs', rfl, a, b⟩ := h
    unfold pyL at e
    cases q1 : d.py S.ah with
    | none => rw [q1] at e; cases e
    | some p =>
      cases q2 : pyL S.ah ds with
      | none => rw [q1, q2] at e; cases e
      | some ps' =>
        rw [q1, q2] at e; cases e
        exact .cons (py_rd ok d v p a q1) (pyL_rd ok ds vs' ps' b q2)
end
theorem rvpy_rd (ok : WOk K S) {r : RV} {v : V} {p : PyData} (h : RVRep K S0 Sa S r v) (e : r.py S.ah = some p) : Dp K S.H v p := by
  have fin : ∀ xs, r.lst S.ah = some xs → (pyL S.ah xs).map PyData.list = some p → Dp K S.H v p := fun xs e1 e2 => by
    obtain ⟨a, vs, rfl, h1, rr⟩ := lst_rd ok h e1
    cases q : pyL S.ah xs with
    | none => rw [q] at e2; cases e2
    | some ps => rw [q] at e2; cases e2; exact .lst (.of h1) (pyL_rd ok xs vs ps rr q)
  cases r with
  | own xs => exact fin xs rfl e
  | brw xs => exact fin xs rfl e
  | val d =>
    cases d with
    | ref t =>
      unfold RV.py at e
      dsimp only at e
      split at e
      · rename_i xs q
        exact fin xs (by unfold RV.lst; dsimp only; rw [q]) e
      · cases e
    | _ => exact py_rd ok _ v p h e

/-! ### laying -/
theorem laid (ok : WOk K S) {p : Addr} {o : HO} (hp : S.H p = none) : Ext S { S with H := upd S.H p o } ∧ WOk K { S with H := upd S.H p o } := by
  have e : Ext S { S with H := upd S.H p o } := by
    refine ⟨Nat.le_refl _, fun _ _ => rfl, fun a u h _ _ => ?_, fun a h => ?_, fun _ h => h, fun a h => h.elim .inl fun z => .inr (.inl z)⟩
    · show upd S.H p o a = some u
      rw [upd_ne (ne_of_none h hp)]; exact h
    · by_cases q : a = p
      · subst q; exact hp
      · have h' : upd S.H p o a = none := h
        rw [upd_ne q] at h'; exact h'
  refine ⟨e, fun t u h => ?_, ok.inj, fun a f => ?_⟩
  · have q := ok.obj t u h
    cases u with
    | ins c fs => exact q.elim
    | lst xs =>
      obtain ⟨vs, h1, r⟩ := q
      refine ⟨vs, ?_, Reps.mono ok e _ _ r⟩
      show upd S.H p o (S.m t) = _
      rw [upd_ne (ne_of_none h1 hp)]; exact h1
  · obtain ⟨⟨vs, h1⟩, n⟩ := ok.fz a f
    refine ⟨⟨vs, ?_⟩, n⟩
    show upd S.H p o a = _
    rw [upd_ne (ne_of_none h1 hp)]; exact h1
theorem laid_own (ok : WOk K S) {p : Addr} {xs : List D} {vs : List V} (hp : S.H p = none) (r : Reps K S xs vs) : OwnAt K S { S with H := upd S.H p (.lst vs) } p xs := by
  obtain ⟨e, _⟩ := laid (o := .lst vs) ok hp
  refine ⟨vs, upd_same, Reps.mono ok e _ _ r, fun f => ?_, fun m => ?_, hp⟩
  · obtain ⟨⟨ws, h⟩, _⟩ := ok.fz p f
    rw [hp] at h; cases h
  · obtain ⟨ws, h⟩ := ok.mutL m
    rw [hp] at h; cases h
theorem laid_tup (ok : WOk K S) {p : Addr} {xs : List D} {vs : List V} (hp : S.H p = none) (r : Reps K S xs vs) : Rep K { S with H := upd S.H p (.tup vs) } (.tup xs) (.ref p) := by
  obtain ⟨e, _⟩ := laid (o := .tup vs) ok hp
  unfold Rep
  exact ⟨p, vs, rfl, .of upd_same, Reps.mono ok e _ _ r⟩
/-- a new list is frozen -/
theorem frozen (ok : WOk K S') (e : Ext S S') {a : Addr} {xs : List D} (h : OwnAt K S S' a xs) :
    Ext S { S' with F := fun b => S'.F b ∨ b = a } ∧ WOk K { S' with F := fun b => S'.F b ∨ b = a } ∧ Rep K { S' with F := fun b => S'.F b ∨ b = a } (.lst xs) (.ref a) := by
  obtain ⟨vs, h1, r, f, m, z⟩ := h
  have e2 : ExtT (fun b => b = a) S' { S' with F := fun b => S'.F b ∨ b = a } := ⟨Nat.le_refl _, fun _ _ => rfl, fun _ _ h _ _ => h, fun _ h => h, fun _ h => .inl h, fun b h => by
    rcases h with (h | h) | h
    · exact .inl h
    · exact .inr (.inr (.inr h))
    · exact .inr (.inl h)⟩
  have tk : Tok (fun b => b = a) S' := ⟨fun b z => by rw [z]; exact ⟨vs, h1⟩, fun b z => by rw [z]; exact f⟩
  refine ⟨⟨e.len, e.m, e.keep, e.dom, fun b h => .inl (e.frz b h), fun b h => ?_⟩, ⟨fun t o h => ?_, ok.inj, fun b h => ?_⟩, ?_⟩
  · rcases h with (h | h) | h
    · exact e.new b (.inl h)
    · rw [h]; exact .inr (.inr (.inl z))
    · exact e.new b (.inr h)
  · have q := ok.obj t o h
    cases o with
    | ins c fs => exact q.elim
    | lst ys => obtain ⟨ws, h2, r2⟩ := q; exact ⟨ws, h2, Reps.monoT ok e2 tk _ _ r2⟩
  · rcases h with h | h
    · exact ok.fz b h
    · rw [h]; exact ⟨⟨vs, h1⟩, m⟩
  · unfold Rep
    exact ⟨a, vs, rfl, h1, .inr rfl, Reps.monoT ok e2 tk _ _ r⟩

/-! ### what follows a step that gives a value -/
/-- the wanted end of an operator -/
def RQ (K : PySem.W.Frag) (S0 S : Wd) (p : RV → Wd → Prop) : VK := fun v H' => ∃ S' r, S'.H = H' ∧ Ext S S' ∧ WOk K S' ∧ RVRep K S0 S S' r v ∧ p r S'
theorem rq_val (ok : WOk K S) {d : D} {v : V} {p : RV → Wd → Prop} (h : Wp K E (pure (.val d)) S p) (r : Rep K S d v) : RQ K S0 S p v S.H :=
  ⟨S, .val d, rfl, Ext.refl S, ok, r, Wp.pure ok h⟩
theorem rq_own (ok : WOk K S) {xs : List D} {vs : List V} {p : RV → Wd → Prop} (h : Wp K E (pure (.own xs)) S p) (r : Reps K S xs vs) (a : Addr) (ha : S.H a = none) : RQ K S0 S p (.ref a) (upd S.H a (.lst vs)) := by
  obtain ⟨e, o⟩ := laid (o := .lst vs) ok ha
  exact ⟨_, .own xs, rfl, e, o, ⟨a, rfl, laid_own ok ha r⟩, h _ e o rfl⟩
theorem rq_tup (ok : WOk K S) {xs : List D} {vs : List V} {p : RV → Wd → Prop} (h : Wp K E (pure (.val (.tup xs))) S p) (r : Reps K S xs vs) (a : Addr) (ha : S.H a = none) : RQ K S0 S p (.ref a) (upd S.H a (.tup vs)) := by
  obtain ⟨e, o⟩ := laid (o := .tup vs) ok ha
  exact ⟨_, .val (.tup xs), rfl, e, o, laid_tup ok ha r, h _ e o rfl⟩

/-! ### operators -/
def relB (K : PySem.W.Frag) : BinO → R2
  | .add => fun x y H Q => rI0 (fun i j => .int (i + j)) x y H Q ∨ rCat x y H Q
  | .sub => rI0 fun i j => .int (i - j)
  | .mul => fun x y H Q => rI CMul (fun i j => .int (i * j)) x y H Q ∨ rRep x y H Q
  | .fdiv => rI CDivW fun i j => .int (i / j)
  | .mod => rI (fun _ j => 0 < j) fun i j => .int (i % j)
  | .pow => rI CPow fun i j => .int (i ^ j.toNat)
  | .shl => rI CPow fun i j => .int (i * 2 ^ j.toNat)
  | .shr => rI (fun _ j => 0 ≤ j) fun i j => .int (i / 2 ^ j.toNat)
  | .band => rI0 fun i j => .int (Builtin.bitAnd i j)
  | .bor => rI0 fun i j => .int (Builtin.bitOr i j)
  | .bxor => rI0 fun i j => .int (Builtin.bitXor i j)
  | .eq => fun x y H Q => rEq x y H Q ∨ rEqD K x y H Q
  | .ne => fun x y H Q => rNe x y H Q ∨ rNeD K x y H Q
  | .lt => rI0 fun i j => .bl (decide (i < j))
  | .le => rI0 fun i j => .bl (decide (i ≤ j))
  | .gt => rI0 fun i j => .bl (decide (j < i))
  | .ge => rI0 fun i j => .bl (decide (j ≤ i))
  | .isIn => rIn K false
  | .notIn => rIn K true
  | .ix => rIx K
theorem rel_int {op : BinO} {i j : Int} {p : RV → Wd → Prop} {Q : VK} (ok : WOk K S) (h : Wp K E (intOp op i j) S p) (hQ : ∀ v H', RQ K S0 S p v H' → Q v H') : relB K op (.int i) (.int j) S.H Q := by
  have fin : ∀ {d : D} {v : V}, Wp K E (pure (.val d)) S p → Rep K S d v → Q v S.H := fun h r => hQ _ _ (rq_val ok h r)
  cases op with
  | add => exact .inl ⟨i, j, rfl, rfl, fin h (by unfold Rep; rfl)⟩
  | sub => exact ⟨i, j, rfl, rfl, fin h (by unfold Rep; rfl)⟩
  | mul => obtain ⟨c, h⟩ := Wp.guard ok h; exact .inl ⟨i, j, rfl, rfl, c, fin h (by unfold Rep; rfl)⟩
  | fdiv =>
    obtain ⟨c, h⟩ := Wp.guard ok h
    have e : (2 ^ 1000 : Int) = ((2 ^ 1000 : Nat) : Int) := by norm_cast
    refine ⟨i, j, rfl, rfl, wide_div (b := 1000) c.1 ?_ (by decide) (by decide), fin h (by unfold Rep; rfl)⟩
    have h2 := c.2
    rw [e] at h2
    omega
  | mod => obtain ⟨c, h⟩ := Wp.guard ok h; exact ⟨i, j, rfl, rfl, c, fin h (by unfold Rep; rfl)⟩
  | pow => obtain ⟨c, h⟩ := Wp.guard ok h; exact ⟨i, j, rfl, rfl, c, fin h (by unfold Rep; rfl)⟩
  | shl => obtain ⟨c, h⟩ := Wp.guard ok h; exact ⟨i, j, rfl, rfl, c, fin h (by unfold Rep; rfl)⟩
  | shr => obtain ⟨c, h⟩ := Wp.guard ok h; exact ⟨i, j, rfl, rfl, c, fin h (by unfold Rep; rfl)⟩
  | band => exact ⟨i, j, rfl, rfl, fin h (by unfold Rep; rfl)⟩
  | bor => exact ⟨i, j, rfl, rfl, fin h (by unfold Rep; rfl)⟩
  | bxor => exact ⟨i, j, rfl, rfl, fin h (by unfold Rep; rfl)⟩
  | eq => exact .inl ⟨rfl, fin h (by unfold Rep; rw [dec_int])⟩
  | ne => exact .inl ⟨rfl, fin h (by unfold Rep; rw [dec_int])⟩
  | lt => exact ⟨i, j, rfl, rfl, fin h (by unfold Rep; rfl)⟩
  | le => exact ⟨i, j, rfl, rfl, fin h (by unfold Rep; rfl)⟩
  | gt => exact ⟨i, j, rfl, rfl, fin h (by unfold Rep; rfl)⟩
  | ge => exact ⟨i, j, rfl, rfl, fin h (by unfold Rep; rfl)⟩
  | isIn => exact h.elim
  | notIn => exact h.elim
  | ix => exact h.elim
theorem eqF_rd {x y : D} {u v : V} (rx : Rep K S x u) (ry : Rep K S y v) (fx : x.isFlat = true) (fy : y.isFlat = true) : L2.eqV v u = eqF y x ∧ flatV u = true ∧ flatV v = true := by
  cases x <;> (try (exact Bool.noConfusion (show false = true from fx))) <;> cases y <;> (try (exact Bool.noConfusion (show false = true from fy))) <;> (unfold Rep at rx ry; subst rx; subst ry; exact ⟨rfl, rfl, rfl⟩)
theorem inF_rd {x : D} {u : V} (rx : Rep K S x u) (fx : x.isFlat = true) : ∀ {ys : List D} {vs : List V}, Reps K S ys vs → ys.all D.isFlat = true → L2.inV u vs = inFlat x ys ∧ vs.all flatV = true
  | [], vs, h, _ => by unfold Reps at h; subst h; exact ⟨rfl, rfl⟩
  | y :: ys, vs, h, f => by
    unfold Reps at h
    obtain ⟨v, vs', rfl, a, b⟩ := h
    rw [List.all_cons, Bool.and_eq_true] at f
    obtain ⟨e1, f1, f2⟩ := eqF_rd rx a fx f.1
    obtain ⟨e2, f3⟩ := inF_rd rx fx b f.2
    refine ⟨?_, by rw [List.all_cons, f2, f3]; rfl⟩
    unfold L2.inV inFlat at e2 ⊢
    rw [List.any_cons, List.any_cons, e1, e2]
theorem flatV_rd {x : D} {u : V} (rx : Rep K S x u) (fx : x.isFlat = true) : flatV u = true := by
  cases x <;> (try (exact Bool.noConfusion (show false = true from fx))) <;> (unfold Rep at rx; subst rx; rfl)
theorem Reps.atI {xs : List D} {vs : List V} (r : Reps K S xs vs) {i : Int} {d : D} (h : L2.atI xs i = some d) : ∃ v, L2.atI vs i = some v ∧ Rep K S d v := by
  unfold L2.atI at h ⊢
  rw [← r.length]
  cases q : L2.ixN xs.length i with
  | none => rw [q] at h; cases h
  | some j => rw [q] at h; exact r.get h
theorem rel_bin {op : BinO} {a b : RV} {x y : V} {p : RV → Wd → Prop} {S0 Sa Sb : Wd} (ok : WOk K S) (ra : RVRep K S0 Sa S a x) {Q : VK} (rb : RVRep K S0 Sb S b y) (h : Wp K E (binSem op a b) S p) (hQ : ∀ v H', RQ K S0 S p v H' → Q v H') : relB K op x y S.H Q := by
  by_cases hi : ∃ i j, a = .val (.int i) ∧ b = .val (.int j)
  · obtain ⟨i, j, rfl, rfl⟩ := hi
    unfold RVRep Rep at ra rb
    subst ra; subst rb
    exact rel_int ok h hQ
  · have e : ∀ {q : Prop}, (∀ (m : M RV), binSem op a b = m → q) → q := fun h => h _ rfl
    unfold binSem at h
    split at h
    · exact absurd ⟨_, _, rfl, rfl⟩ hi
    · split at h
      · -- add
        have h := Wp.getH h
        obtain ⟨xs, e1, h⟩ := Wp.opt h
        obtain ⟨ys, e2, h⟩ := Wp.opt h
        obtain ⟨c, h⟩ := Wp.guard ok h
        obtain ⟨a', vs, rfl, h1, r1⟩ := lst_rd ok ra e1
        obtain ⟨b', ws, rfl, h2, r2⟩ := lst_rd ok rb e2
        refine .inr ⟨a', b', vs, ws, rfl, rfl, h1, h2, by rw [← r1.length, ← r2.length]; exact c, fun q hq => hQ _ _ (rq_own ok h (r1.append r2) q hq)⟩
      · -- mul
        split at h
        · have h := Wp.getH h
          obtain ⟨xs, e1, h⟩ := Wp.opt h
          obtain ⟨c, h⟩ := Wp.guard ok h
          obtain ⟨a', vs, rfl, h1, r1⟩ := lst_rd ok ra e1
          unfold RVRep Rep at rb
          subst rb
          exact .inr ⟨a', _, vs, rfl, rfl, h1, c.1, c.2.1, by rw [← r1.length]; exact c.2.2, fun q hq => hQ _ _ (rq_own ok h (r1.rep _) q hq)⟩
        · exact h.elim
      · have h := Wp.getH h
        obtain ⟨u, e1, h⟩ := Wp.opt h
        obtain ⟨w, e2, h⟩ := Wp.opt h
        obtain ⟨c, h⟩ := Wp.guard ok h
        exact .inr ⟨u, w, rvpy_rd ok ra e1, rvpy_rd ok rb e2, c.1, c.2, hQ _ _ (rq_val ok h (by unfold Rep; rfl))⟩
      · have h := Wp.getH h
        obtain ⟨u, e1, h⟩ := Wp.opt h
        obtain ⟨w, e2, h⟩ := Wp.opt h
        obtain ⟨c, h⟩ := Wp.guard ok h
        exact .inr ⟨u, w, rvpy_rd ok ra e1, rvpy_rd ok rb e2, c.1, c.2, hQ _ _ (rq_val ok h (by unfold Rep; rfl))⟩
      · -- ix
        split at h
        · have h := Wp.getH h
          obtain ⟨xs, e1, h⟩ := Wp.opt h
          obtain ⟨d, e2, h⟩ := Wp.opt h
          obtain ⟨a', vs, rfl, h1, r1⟩ := seq_rd ok ra e1
          unfold RVRep Rep at rb
          subst rb
          obtain ⟨v, e3, r3⟩ := r1.atI e2
          rcases h1 with h1 | h1
          · exact .inl ⟨a', vs, _, v, rfl, rfl, h1, e3, hQ _ _ (rq_val ok h r3)⟩
          · exact .inr (.inl ⟨a', vs, _, v, rfl, rfl, h1, e3, hQ _ _ (rq_val ok h r3)⟩)
        · exact h.elim
      · split at h
        · have h := Wp.getH h
          obtain ⟨xs, e1, h⟩ := Wp.opt h
          obtain ⟨c, h⟩ := Wp.guard ok h
          obtain ⟨b', ws, rfl, h2, r2⟩ := seq_rd ok rb e1
          obtain ⟨q1, q2⟩ := inF_rd ra c.1 r2 c.2
          exact ⟨b', ws, rfl, h2, flatV_rd ra c.1, q2, hQ _ _ (rq_val ok h (by unfold Rep; rw [if_neg (by decide), q1]))⟩
        · exact h.elim
      · split at h
        · have h := Wp.getH h
          obtain ⟨xs, e1, h⟩ := Wp.opt h
          obtain ⟨c, h⟩ := Wp.guard ok h
          obtain ⟨b', ws, rfl, h2, r2⟩ := seq_rd ok rb e1
          obtain ⟨q1, q2⟩ := inF_rd ra c.1 r2 c.2
          exact ⟨b', ws, rfl, h2, flatV_rd ra c.1, q2, hQ _ _ (rq_val ok h (by unfold Rep; rw [if_pos rfl, q1]))⟩
        · exact h.elim
      · exact h.elim
end Wb

set_option maxHeartbeats 4000000
/-! Expressions: the readings that the evaluator gives, and that they are right. -/
namespace Wb
open PySem PySem.Spec L2
abbrev E0x : Xc → Wd → Prop := fun _ _ => False
section
variable (K : PySem.W.Frag) (C : Callee)
/-- the state of a frame: where it began, how it stands, its slots -/
structure Fr (S0 S : Wd) (sl : Wb.Sl) (σ : L2.St) : Prop where
  ok : WOk K S
  sr : SlRep K S0 S sl σ
def RE (e : ME) : TE := fun σ H Q => ∃ S0 S sl, S.H = H ∧ Fr K S0 S sl σ ∧ Wp K E0x (evalE C e sl) S fun r S' => ∀ v, RVRep K S0 S S' r v → Q v S'.H
def RD (e : ME) : TE := fun σ H Q => ∃ S0 S sl, S.H = H ∧ Fr K S0 S sl σ ∧ Wp K E0x (do let x ← evalE C e sl; asD x) S fun d S' => ∀ v, Rep K S' d v → Q v S'.H
def RT (e : ME) : TT := fun σ H Q => ∃ S0 S sl, S.H = H ∧ Fr K S0 S sl σ ∧ Wp K E0x (do let x ← evalE C e sl; asBl x) S fun b S' => Q b S'.H
def RDs (es : MEs) : TA := fun σ H Q => ∃ S0 S sl, S.H = H ∧ Fr K S0 S sl σ ∧ Wp K E0x (evalDs C es sl) S fun ds S' => ∀ vs, Reps K S' ds vs → Q vs S'.H
def RVs (S0 S S' : Wd) : List RV → List V → Prop
  | [], vs => vs = []
  | r :: rs, vs => ∃ v vs', vs = v :: vs' ∧ RVRep K S0 S S' r v ∧ RVs S0 S S' rs vs'
def REs (es : MEs) : TA := fun σ H Q => ∃ S0 S sl, S.H = H ∧ Fr K S0 S sl σ ∧ Wp K E0x (evalEs C es sl) S fun rs S' => ∀ vs, RVs K S0 S S' rs vs → Q vs S'.H
def RO (o : MO) : TO := fun σ H Q => ∃ S0 S sl, S.H = H ∧ Fr K S0 S sl σ ∧ Wp K E0x (evalO C o sl) S fun i S' => Q i S'.H
/-- what is walked gives just these items, whatever is done to lists of somebody's own -/
def ItOk (J : It) (items : List D) (S1 : Wd) : Prop := ∀ T S, Tok T S1 → ExtT T S1 S → WOk K S → ∀ i : Nat,
  (∀ d, items[i]? = some d → J.go i S.H ∧ ∀ x H', J.yld i S.H x H' → ∃ S', S'.H = H' ∧ S'.ah = S.ah ∧ Ext S S' ∧ WOk K S' ∧ Rep K S' d x) ∧ (items.length ≤ i → J.stop i S.H)
def RI (it : MI) : TI := fun σ H R => ∃ S0 S sl, S.H = H ∧ Fr K S0 S sl σ ∧ Wp K E0x (evalI C it sl) S fun items S' => ∀ J, ItOk K J items S' → R J S'.H
end
variable {K : PySem.W.Frag} {C : Callee} {S S1 S2 S' S0 Sa : Wd} {σ : L2.St} {sl : Wb.Sl} {X : Cx}
theorem Fr.mono (f : Fr K S0 S sl σ) (ok : WOk K S') (e : Ext S S') : Fr K S0 S' sl σ := ⟨ok, f.sr.mono f.ok e⟩
theorem RVs.mono (ok : WOk K S1) (e : Ext S1 S2) : ∀ {rs : List RV} {vs : List V}, RVs K S0 S S1 rs vs → RVs K S0 S S2 rs vs
  | [], vs, h => h
  | r :: rs, vs, h => by
    obtain ⟨v, vs', rfl, a, b⟩ := h
    exact ⟨v, vs', rfl, a.mono ok e, RVs.mono ok e b⟩
theorem RVs.back (e : Ext S S1) : ∀ {rs : List RV} {vs : List V}, RVs K S0 S1 S' rs vs → RVs K S0 S S' rs vs
  | [], vs, h => h
  | r :: rs, vs, h => by
    obtain ⟨v, vs', rfl, a, b⟩ := h
    exact ⟨v, vs', rfl, a.back e, RVs.back e b⟩
/-- into an expression's reading -/
theorem RE.mk {e : ME} {Q : VK} {p : RV → Wd → Prop} (f : Fr K S0 S sl σ) (h : Wp K E0x (evalE C e sl) S p)
    (q : ∀ r S' v, Ext S S' → WOk K S' → p r S' → RVRep K S0 S S' r v → Q v S'.H) : RE K C e σ S.H Q :=
  ⟨S0, S, sl, rfl, f, h.mono fun r S' e o z v rv => q r S' v e o z rv⟩
theorem RD.mk {e : ME} {Q : VK} {p : D → Wd → Prop} (f : Fr K S0 S sl σ) (h : Wp K E0x (do let x ← evalE C e sl; asD x) S p)
    (q : ∀ d S' v, Ext S S' → WOk K S' → p d S' → Rep K S' d v → Q v S'.H) : RD K C e σ S.H Q :=
  ⟨S0, S, sl, rfl, f, h.mono fun r S' e o z v rv => q r S' v e o z rv⟩
theorem RT.mk {e : ME} {Q : Bool → Hp → Prop} {p : Bool → Wd → Prop} (f : Fr K S0 S sl σ) (h : Wp K E0x (do let x ← evalE C e sl; asBl x) S p)
    (q : ∀ b S', Ext S S' → WOk K S' → p b S' → Q b S'.H) : RT K C e σ S.H Q :=
  ⟨S0, S, sl, rfl, f, h.mono fun r S' e o z => q r S' e o z⟩
theorem RDs.mk {es : MEs} {Q : List V → Hp → Prop} {p : List D → Wd → Prop} (f : Fr K S0 S sl σ) (h : Wp K E0x (evalDs C es sl) S p)
    (q : ∀ ds S' vs, Ext S S' → WOk K S' → p ds S' → Reps K S' ds vs → Q vs S'.H) : RDs K C es σ S.H Q :=
  ⟨S0, S, sl, rfl, f, h.mono fun r S' e o z v rv => q r S' v e o z rv⟩
theorem REs.mk {es : MEs} {Q : List V → Hp → Prop} {p : List RV → Wd → Prop} (f : Fr K S0 S sl σ) (h : Wp K E0x (evalEs C es sl) S p)
    (q : ∀ ds S' vs, Ext S S' → WOk K S' → p ds S' → RVs K S0 S S' ds vs → Q vs S'.H) : REs K C es σ S.H Q :=
  ⟨S0, S, sl, rfl, f, h.mono fun r S' e o z v rv => q r S' v e o z rv⟩
theorem RO.mk {e : MO} {Q : Option Int → Hp → Prop} {p : Option Int → Wd → Prop} (f : Fr K S0 S sl σ) (h : Wp K E0x (evalO C e sl) S p)
    (q : ∀ b S', Ext S S' → WOk K S' → p b S' → Q b S'.H) : RO K C e σ S.H Q :=
  ⟨S0, S, sl, rfl, f, h.mono fun r S' e o z => q r S' e o z⟩
theorem RI.mk {e : MI} {R : It → Hp → Prop} {p : List D → Wd → Prop} (f : Fr K S0 S sl σ) (h : Wp K E0x (evalI C e sl) S p)
    (q : ∀ items J S', Ext S S' → WOk K S' → p items S' → ItOk K J items S' → R J S'.H) : RI K C e σ S.H R :=
  ⟨S0, S, sl, rfl, f, h.mono fun r S' e o z J hJ => q r J S' e o z hJ⟩

/-- a value from what an expression gives: a new list is frozen -/
theorem RD.of {e : ME} {Q : VK} {H : Hp} (h : RD K C e σ H Q) : RE K C e σ H Q := by
  obtain ⟨S0, S, sl, rfl, f, h⟩ := h
  refine ⟨S0, S, sl, rfl, f, ?_⟩
  unfold Wp at h ⊢
  rw [bind_def] at h
  cases q : evalE C e sl S.ah with
  | stuck => rw [q] at h; exact h
  | exc x h' => rw [q] at h; exact h
  | ok r h' =>
    rw [q] at h
    dsimp only at h ⊢
    intro S' e' o' z' v rv
    unfold asD Wb.opt at h
    cases r with
    | val d => exact h S' e' o' z' v rv
    | brw xs => exact h.elim
    | own xs =>
      obtain ⟨a, rfl, ow⟩ := rv
      obtain ⟨e2, o2, r2⟩ := frozen o' e' ow
      exact h _ e2 o2 z' _ r2

/-! ### weakening -/
theorem PE.to {e : Expr} {t t' : TE} (h : PE X e t) (w : ∀ σ H Q, t' σ H Q → t σ H Q) : PE X e t' := ⟨fun pins s σ H Q I q => h.run pins s σ H Q I (w σ H Q q)⟩
theorem PT.to {e : Expr} {t t' : TT} (h : PT X e t) (w : ∀ σ H Q, t' σ H Q → t σ H Q) : PT X e t' := ⟨fun pins s σ H Q I q => h.run pins s σ H Q I (w σ H Q q)⟩
theorem PW.to {e : Expr} {t t' : TT} (h : PW X e t) (w : ∀ σ H Q, t' σ H Q → t σ H Q) : PW X e t' := ⟨fun wh pins s σ H Q I q => h.run wh pins s σ H Q I (w σ H Q q)⟩
theorem PA.to {e : List Expr} {t t' : TA} (h : PA X e t) (w : ∀ σ H Q, t' σ H Q → t σ H Q) : PA X e t' := ⟨fun pos pins s σ H Q I q => h.run pos pins s σ H Q I (w σ H Q q)⟩
theorem PO.to {e : Option Expr} {t t' : TO} (h : PO X e t) (w : ∀ σ H Q, t' σ H Q → t σ H Q) : PO X e t' := ⟨fun pins s σ H Q I q => h.run pins s σ H Q I (w σ H Q q)⟩
theorem PI.to {tg it : Expr} {t t' : TI} (h : PI X tg it t) (w : ∀ σ H Q, t' σ H Q → t σ H Q) : PI X tg it t' := ⟨fun pins s σ H Q I q => h.run pins s σ H Q I (w σ H Q q)⟩
theorem RE.pd {e : ME} {x : Expr} (h : PE X x (RE K C e)) : PE X x (RD K C e) := PE.to h fun _ _ _ q => RD.of q

/-! ### operators by their form -/
def opA : BinO → Option Operator
  | .add => some .Add | .sub => some .Sub | .mul => some .Mult | .fdiv => some .FloorDiv | .mod => some .Mod | .pow => some .Pow
  | .shl => some .LShift | .shr => some .RShift | .band => some .BitAnd | .bor => some .BitOr | .bxor => some .BitXor
  | _ => none
def opC : BinO → Option CmpOp
  | .eq => some .Eq | .ne => some .NotEq | .lt => some .Lt | .le => some .LtE | .gt => some .Gt | .ge => some .GtE | .isIn => some .In | .notIn => some .NotIn
  | _ => none
theorem OpR.or2 {f : Value → Value → Sem Value} {r r' : R2} (h : OpR X f r) (h' : OpR X f r') : OpR X f (fun x y H Q => r x y H Q ∨ r' x y H Q) := OpR.or h h'
theorem opr_a {op : BinO} {o : Operator} (h : opA op = some o) : OpR X (binaryOp o) (relB X.K op) := by
  cases op <;> (first | (cases h; done) | skip) <;> (injection h with h; subst h)
  · exact OpR.or2 op_add op_cat
  · exact op_sub
  · exact OpR.or2 op_mul op_rep
  · exact op_fdivW
  · exact op_mod
  · exact op_pow
  · exact op_shl
  · exact op_shr
  · exact op_and
  · exact op_or
  · exact op_xor
theorem opr_c {op : BinO} {o : CmpOp} (hu : X.A.units + 64 < cLine) (h : opC op = some o) : OpR X (compareOp o) (relB X.K op) := by
  cases op <;> (first | (cases h; done) | skip) <;> (injection h with h; subst h)
  · exact OpR.or2 op_eq (op_eqD hu)
  · exact OpR.or2 op_ne (op_neD hu)
  · exact op_lt
  · exact op_le
  · exact op_gt
  · exact op_ge
  · exact op_in_seq
  · exact op_notIn_seq
/-- two operands, an operator -/
theorem re_two {op : BinO} {a b : ME} {H : Hp} {Q : VK} (h : RE K C (.bin op a b) σ H Q) : tOp (relB K op) (RE K C a) (RE K C b) σ H Q := by
  obtain ⟨S0, S, sl, rfl, f, h⟩ := h
  unfold evalE at h
  refine RE.mk f h.bind fun ra S1 x e1 o1 h1 r1 => RE.mk (f.mono o1 e1) h1.bind fun rb S2 y e2 o2 h2 r2 => ?_
  exact rel_bin (S0 := S0) o2 (r1.mono o1 e2) r2 h2 fun v H' ⟨S', r, eH, e3, o3, rv, q⟩ => by
    subst eH
    exact q v (rv.back (Ext.trans o1 e1 e2))

theorem M.assoc {α β γ : Type} (m : M α) (k : α → M β) (l : β → M γ) : ((m >>= k) >>= l) = (m >>= fun a => k a >>= l) := by
  funext h
  simp only [bind_def]
  cases m h <;> rfl
theorem Wp.unassoc {α β γ : Type} {E : Xc → Wd → Prop} {m : M α} {k : α → M β} {l : β → M γ} {p : γ → Wd → Prop} (h : Wp K E ((m >>= k) >>= l) S p) : Wp K E (m >>= fun a => k a >>= l) S p := by
  rw [← M.assoc]; exact h
theorem RT.of {e : ME} {H : Hp} {Q : Bool → Hp → Prop} (h : RT K C e σ H Q) : RE K C e σ H fun x H' => ∃ k, x = .bl k ∧ Q k H' := by
  obtain ⟨S0, S, sl, rfl, f, h⟩ := h
  refine RE.mk f h.bind fun r S' v e o h1 rv => ?_
  unfold asBl at h1
  split at h1
  · unfold RVRep Rep at rv
    subst rv
    exact ⟨_, rfl, Wp.pure o h1⟩
  · exact h1.elim
theorem bl_of {r : RV} {v : V} {β : Type} {k : Bool → M β} {p : β → Wd → Prop} (o : WOk K S') (rv : RVRep K S0 S S' r v) (h : Wp K E0x (asBl r >>= k) S' p) : ∃ b, v = .bl b ∧ r = .val (.bl b) ∧ Wp K E0x (k b) S' p := by
  unfold asBl at h
  split at h
  · unfold RVRep Rep at rv
    subst rv
    exact ⟨_, rfl, rfl, h⟩
  · exact h.elim
theorem int_of {r : RV} {v : V} {β : Type} {k : Int → M β} {p : β → Wd → Prop} (o : WOk K S') (rv : RVRep K S0 S S' r v) (h : Wp K E0x (asInt r >>= k) S' p) : ∃ b, v = .int b ∧ r = .val (.int b) ∧ Wp K E0x (k b) S' p := by
  unfold asInt at h
  split at h
  · unfold RVRep Rep at rv
    subst rv
    exact ⟨_, rfl, rfl, h⟩
  · exact h.elim

/-! ### names, constants -/
theorem re_var {i : Nat} {x : Str} {pos : Pos} (hN : X.N[i]? = some x) (hv : Vis X.env.scope x) (hd : (x == ("__debug__" : Str)) = false) (hcd : (x == ("__classdict__" : Str)) = false) : PE X (.Name x pos) (RE X.K C (.var i)) := by
  refine PE.to (pe_var hN hv hd hcd) fun σ H Q h => ?_
  obtain ⟨S0, S, sl, rfl, f, h⟩ := h
  unfold Wp evalE at h
  cases q : sl[i]? with
  | none => simp only [q] at h
  | some o =>
    cases o with
    | none => simp only [q] at h
    | some fv =>
      cases fv with
      | val d =>
        simp only [q] at h
        obtain ⟨v, e, r⟩ := f.sr.val i d q
        exact ⟨v, e, h S (Ext.refl S) f.ok rfl v r⟩
      | own xs =>
        simp only [q] at h
        obtain ⟨oa, o, _⟩ := f.sr.own
        obtain ⟨e, r⟩ := o i xs q
        exact ⟨_, e, h S (Ext.refl S) f.ok rfl _ ⟨oa i, rfl, r⟩⟩
theorem re_const {d : D} {v : V} {e : Expr} (h : PE X e (tC v)) (r : ∀ S, Rep X.K S d v) : PE X e (RE X.K C (.cst d)) := by
  refine PE.to h fun σ H Q h => ?_
  obtain ⟨S0, S, sl, rfl, f, h⟩ := h
  unfold evalE at h
  exact Wp.pure f.ok h v (r S)
theorem re_glb {d : D} {v : V} {e : Expr} {x : Str} (h : PE X e (tC v)) (r : ∀ S, Rep X.K S d v) : PE X e (RE X.K C (.glb x d)) := by
  refine PE.to h fun σ H Q h => ?_
  obtain ⟨S0, S, sl, rfl, f, h⟩ := h
  unfold evalE at h
  exact Wp.pure f.ok h v (r S)

/-! ### one operand -/
theorem re_neg {a : ME} {x : Expr} {pos : Pos} (ha : PE X x (RE X.K C a)) : PE X (.UnaryOp .USub x pos) (RE X.K C (.una .neg a)) := by
  refine PE.to (pe_un un_neg ha) fun σ H Q h => ?_
  obtain ⟨S0, S, sl, rfl, f, h⟩ := h
  unfold evalE at h
  refine RE.mk f h.bind fun r S1 v e o h1 rv => ?_
  unfold unSem at h1
  split at h1 <;> first | exact h1.elim | (rename_i q; cases q; done) | skip
  unfold RVRep Rep at rv
  subst rv
  exact ⟨_, rfl, Wp.pure o h1 _ (by unfold RVRep Rep; rfl)⟩
theorem re_not {a : ME} {x : Expr} {pos : Pos} (ha : PE X x (RE X.K C a)) : PE X (.UnaryOp .Not x pos) (RE X.K C (.una .not_ a)) := by
  refine PE.to (pe_not ha) fun σ H Q h => ?_
  obtain ⟨S0, S, sl, rfl, f, h⟩ := h
  unfold evalE at h
  refine RE.mk f h.bind fun r S1 v e o h1 rv => ?_
  unfold unSem at h1
  split at h1 <;> first | exact h1.elim | (rename_i q; cases q; done) | skip
  unfold RVRep Rep at rv
  subst rv
  exact ⟨_, rfl, Wp.pure o h1 _ (by unfold RVRep Rep; rfl)⟩
theorem non_iff {d : D} {v : V} (h : Rep K S d v) : decide (v = V.non) = d.isNon := by
  cases d <;> unfold Rep at h <;> first
    | (subst h; rfl)
    | (obtain ⟨a, vs, rfl, _⟩ := h; rfl)
    | (obtain ⟨a, rfl, _⟩ := h; rfl)
    | (obtain ⟨_, rfl⟩ := h; rfl)
theorem re_isN {a : ME} {x : Expr} {pos : Pos} {j pos'} (ha : PE X x (RE X.K C a)) : PE X (.Compare x [.Is] [.Constant .none j pos'] pos) (RE X.K C (.una .isN a)) := by
  refine PE.to (pe_cmp (pc_isN ha)) fun σ H Q h => ?_
  obtain ⟨S0, S, sl, rfl, f, h⟩ := h
  unfold evalE at h
  refine RE.mk f h.bind fun r S1 v e o h1 rv => ?_
  unfold unSem at h1
  split at h1 <;> first | exact h1.elim | (rename_i q; cases q; done) | skip
  unfold RVRep at rv
  refine Wp.pure o h1 _ ?_
  unfold RVRep Rep
  rw [non_iff rv]
theorem re_notN {a : ME} {x : Expr} {pos : Pos} {j pos'} (ha : PE X x (RE X.K C a)) : PE X (.Compare x [.IsNot] [.Constant .none j pos'] pos) (RE X.K C (.una .notN a)) := by
  refine PE.to (pe_cmp (pc_notN ha)) fun σ H Q h => ?_
  obtain ⟨S0, S, sl, rfl, f, h⟩ := h
  unfold evalE at h
  refine RE.mk f h.bind fun r S1 v e o h1 rv => ?_
  unfold unSem at h1
  split at h1 <;> first | exact h1.elim | (rename_i q; cases q; done) | skip
  unfold RVRep at rv
  refine Wp.pure o h1 _ ?_
  unfold RVRep Rep
  rw [non_iff rv]

/-! ### chains, and, or, if -/
theorem re_chn {o1 o2 : BinO} {a b c : ME} {H : Hp} {Q : VK} (h : RE K C (.chn o1 o2 a b c) σ H Q) : tChain (relB K o1) (relB K o2) (RE K C a) (RE K C b) (RE K C c) σ H Q := by
  obtain ⟨S0, S, sl, rfl, f, h⟩ := h
  unfold evalE at h
  refine RE.mk f h.bind fun ra S1 x e1 k1 h1 r1 => RE.mk (f.mono k1 e1) h1.bind fun rb S2 y e2 k2 h2 r2 => ?_
  refine rel_bin (S0 := S0) k2 (r1.mono k1 e2) r2 h2.bind fun z H' ⟨S3, rz, eH, e3, k3, r3, q⟩ => ?_
  subst eH
  obtain ⟨b', e1', e2', q2⟩ := bl_of k3 r3 q
  clear q
  have q := q2
  clear q2
  subst e1'
  refine ⟨b', rfl, ?_⟩
  have e03 := Ext.trans k2 (Ext.trans k1 e1 e2) e3
  cases b' with
  | false =>
    rw [if_neg (by decide)] at q ⊢
    exact Wp.pure k3 q _ (by unfold RVRep Rep; rfl)
  | true =>
    rw [if_pos rfl] at q ⊢
    refine RE.mk (f.mono k3 e03) q.bind fun rc S4 w e4 k4 h4 r4 => ?_
    refine rel_bin (S0 := S0) k4 ((r2.mono k2 e3).mono k3 e4) r4 h4 fun v H' ⟨S5, r, eH, e5, k5, rv, q⟩ => ?_
    subst eH
    exact q v (rv.back (Ext.trans k3 e03 e4))
theorem re_and {a b : ME} {H : Hp} {Q : VK} (h : RE K C (.and_ a b) σ H Q) : tAndV (RE K C a) (RE K C b) σ H Q := by
  obtain ⟨S0, S, sl, rfl, f, h⟩ := h
  unfold evalE at h
  refine RE.mk f h.bind fun ra S1 x e1 k1 h1 r1 => ?_
  obtain ⟨b', e1', e2', q⟩ := bl_of k1 r1 h1
  subst e1'
  refine ⟨b', rfl, ?_⟩
  cases b' with
  | false =>
    rw [if_neg (by decide)] at q ⊢
    exact Wp.pure k1 q _ (by unfold RVRep Rep; rfl)
  | true =>
    rw [if_pos rfl] at q ⊢
    exact RE.mk (f.mono k1 e1) q fun r S' v e o z rv => z v (rv.back e1)
theorem re_or {a b : ME} {H : Hp} {Q : VK} (h : RE K C (.or_ a b) σ H Q) : tOrV (RE K C a) (RE K C b) σ H Q := by
  obtain ⟨S0, S, sl, rfl, f, h⟩ := h
  unfold evalE at h
  refine RE.mk f h.bind fun ra S1 x e1 k1 h1 r1 => ?_
  obtain ⟨b', e1', e2', q⟩ := bl_of k1 r1 h1
  subst e1'
  refine ⟨b', rfl, ?_⟩
  cases b' with
  | true =>
    rw [if_pos rfl] at q ⊢
    exact Wp.pure k1 q _ (by unfold RVRep Rep; rfl)
  | false =>
    rw [if_neg (by decide)] at q ⊢
    exact RE.mk (f.mono k1 e1) q fun r S' v e o z rv => z v (rv.back e1)
theorem re_ite {c a b : ME} {H : Hp} {Q : VK} (h : RE K C (.ite c a b) σ H Q) : tIf (RT K C c) (RE K C a) (RE K C b) σ H Q := by
  obtain ⟨S0, S, sl, rfl, f, h⟩ := h
  unfold evalE at h
  have h' : Wp K E0x ((do let x ← evalE C c sl; asBl x) >>= fun k => if k = true then evalE C a sl else evalE C b sl) S (fun r S' => ∀ v, RVRep K S0 S S' r v → Q v S'.H) := by
    rw [M.assoc]; exact h
  refine RT.mk f h'.bind fun k S1 e1 k1 q => ?_
  cases k with
  | true =>
    rw [if_pos rfl] at q ⊢
    exact RE.mk (f.mono k1 e1) q fun r S' v e o z rv => z v (rv.back e1)
  | false =>
    rw [if_neg (by decide)] at q ⊢
    exact RE.mk (f.mono k1 e1) q fun r S' v e o z rv => z v (rv.back e1)
theorem rt_and {a b : ME} {H : Hp} {Q : Bool → Hp → Prop} (h : RT K C (.and_ a b) σ H Q) : tAnd (RT K C a) (RT K C b) σ H Q := by
  obtain ⟨S0, S, sl, rfl, f, h⟩ := h
  unfold evalE at h
  have h' : Wp K E0x ((do let x ← evalE C a sl; asBl x) >>= fun k => (if k = true then evalE C b sl else pure (vB false)) >>= asBl) S (fun b S' => Q b S'.H) := by
    have h := h.unassoc
    rw [M.assoc]
    have e : (fun x => asBl x >>= fun k => (if k = true then evalE C b sl else pure (vB false)) >>= asBl) = (fun x => (do let k ← asBl x; if k = true then evalE C b sl else pure (vB false)) >>= asBl) := by
      funext x; rw [M.assoc]
    rw [e]; exact h
  refine RT.mk f h'.bind fun k S1 e1 k1 q => ?_
  cases k with
  | true =>
    rw [if_pos rfl] at q ⊢
    exact RT.mk (f.mono k1 e1) q fun r S' e o z => z
  | false =>
    rw [if_neg (by decide)] at q ⊢
    exact Wp.pure k1 q
theorem rt_or {a b : ME} {H : Hp} {Q : Bool → Hp → Prop} (h : RT K C (.or_ a b) σ H Q) : tOr (RT K C a) (RT K C b) σ H Q := by
  obtain ⟨S0, S, sl, rfl, f, h⟩ := h
  unfold evalE at h
  have h' : Wp K E0x ((do let x ← evalE C a sl; asBl x) >>= fun k => (if k = true then pure (vB true) else evalE C b sl) >>= asBl) S (fun b S' => Q b S'.H) := by
    have h := h.unassoc
    rw [M.assoc]
    have e : (fun x => asBl x >>= fun k => (if k = true then pure (vB true) else evalE C b sl) >>= asBl) = (fun x => (do let k ← asBl x; if k = true then pure (vB true) else evalE C b sl) >>= asBl) := by
      funext x; rw [M.assoc]
    rw [e]; exact h
  refine RT.mk f h'.bind fun k S1 e1 k1 q => ?_
  cases k with
  | false =>
    rw [if_neg (by decide)] at q ⊢
    exact RT.mk (f.mono k1 e1) q fun r S' e o z => z
  | true =>
    rw [if_pos rfl] at q ⊢
    exact Wp.pure k1 q
theorem rt_not {a : ME} {H : Hp} {Q : Bool → Hp → Prop} (h : RT K C (.una .not_ a) σ H Q) : tNot (RT K C a) σ H Q := by
  obtain ⟨S0, S, sl, rfl, f, h⟩ := h
  unfold evalE at h
  have h' : Wp K E0x ((do let x ← evalE C a sl; asBl x) >>= fun k => pure (!k)) S (fun b S' => Q b S'.H) := by
    have h := h.unassoc
    rw [M.assoc]
    have e : (fun x : RV => unSem .not_ x >>= asBl) = (fun x : RV => asBl x >>= fun k => (pure (!k) : M Bool)) := by
      funext x
      cases x with
      | val d => cases d <;> rfl
      | own _ => rfl
      | brw _ => rfl
    rw [← e]; exact h
  exact RT.mk f h'.bind fun k S1 e1 k1 q => Wp.pure k1 q

/-! ### displays, slices -/
theorem re_lst {es : MEs} {xs : List Expr} {pos : Pos} (ha : PA X xs (RDs X.K C es)) : PE X (.List xs pos) (RE X.K C (.lst es)) := by
  refine PE.to (pe_lst ha) fun σ H Q h => ?_
  obtain ⟨S0, S, sl, rfl, f, h⟩ := h
  unfold evalE at h
  refine RDs.mk f h.bind fun ds S1 vs e1 o1 h1 r1 => ?_
  obtain ⟨c, h1⟩ := Wp.guard o1 h1
  refine ⟨by rw [← r1.length]; exact c, fun p hp => ?_⟩
  obtain ⟨S2, r, eH, e2, o2, rv, q⟩ := rq_own (S0 := S0) o1 h1 r1 p hp
  rw [← eH]
  exact q _ (rv.back e1)
theorem re_tup {es : MEs} {xs : List Expr} {k : Nat} {pos : Pos} (ha : PA X xs (RDs X.K C es)) : PE X (.Tuple xs k pos) (RE X.K C (.tup es)) := by
  refine PE.to (pe_tup ha) fun σ H Q h => ?_
  obtain ⟨S0, S, sl, rfl, f, h⟩ := h
  unfold evalE at h
  refine RDs.mk f h.bind fun ds S1 vs e1 o1 h1 r1 => ?_
  obtain ⟨c, h1⟩ := Wp.guard o1 h1
  refine ⟨by rw [← r1.length]; exact c, fun p hp => ?_⟩
  obtain ⟨S2, r, eH, e2, o2, rv, q⟩ := rq_tup (S0 := S0) o1 h1 r1 p hp
  rw [← eH]
  exact q _ (rv.back e1)
theorem ro_no : PO X none (RO X.K C .no) := by
  refine PO.to po_none fun σ H Q h => ?_
  obtain ⟨S0, S, sl, rfl, f, h⟩ := h
  exact Wp.pure f.ok h
theorem ro_yes {a : ME} {x : Expr} (ha : PE X x (RE X.K C a)) : PO X (some x) (RO X.K C (.yes a)) := by
  refine PO.to (po_some ha) fun σ H Q h => ?_
  obtain ⟨S0, S, sl, rfl, f, h⟩ := h
  unfold evalO at h
  refine RE.mk f h.bind fun r S1 v e1 o1 h1 r1 => ?_
  obtain ⟨i, e1', e2', q⟩ := int_of o1 r1 h1
  subst e1'
  exact ⟨i, rfl, Wp.pure o1 q⟩
theorem cut_rd {xs : List D} {vs : List V} (r : Reps K S xs vs) (lo hi : Option Int) : Reps K S (cutD xs lo hi) (cutV vs lo hi) := by
  unfold cutD cutV
  rw [r.length]
  exact (r.drop _).take _
theorem re_cut {a : ME} {lo hi : MO} {x : Expr} {l h : Option Expr} {pos p2 : Pos} (ha : PE X x (RE X.K C a)) (hl : PO X l (RO X.K C lo)) (hh : PO X h (RO X.K C hi)) :
    PE X (.Subscript x (.Slice l h none p2) pos) (RE X.K C (.cut a lo hi)) := by
  refine PE.to (pe_slice (SlR.or sl_tup sl_list) ha hl hh) fun σ H Q h => ?_
  obtain ⟨S0, S, sl, rfl, f, h⟩ := h
  unfold evalE at h
  refine RE.mk f h.bind fun ra S1 v e1 o1 h1 r1 => ?_
  refine RO.mk (f.mono o1 e1) h1.bind fun i S2 e2 o2 h2 => ?_
  have e02 := Ext.trans o1 e1 e2
  refine RO.mk (f.mono o2 e02) h2.bind fun j S3 e3 o3 h3 => ?_
  have e03 := Ext.trans o2 e02 e3
  have h5 := Wp.getH h3
  clear h3
  have r3 := (r1.mono o1 e2).mono o2 e3
  split at h5
  · rename_i xs
    obtain ⟨c, h4⟩ := Wp.guard o3 h5
    unfold RVRep Rep at r3
    obtain ⟨a', vs, rfl, hs, rr⟩ := r3
    refine .inl ⟨a', vs, rfl, hs, by rw [← rr.length]; exact c, fun p hp => ?_⟩
    obtain ⟨S4, r, eH, e4, o4, rv, q⟩ := rq_tup (S0 := S0) o3 h4 (cut_rd rr i j) p hp
    rw [← eH]
    exact q _ (rv.back e03)
  · rename_i ns
    unfold RVRep Rep at r3
    obtain ⟨a', rfl, hs⟩ := r3
    refine .inr ⟨a', _, rfl, hs.sqL, fun p hp => ?_⟩
    obtain ⟨S4, r, eH, e4, o4, rv, q⟩ := rq_own (S0 := S0) o3 h5 (cut_rd (Reps.ints ns) i j) p hp
    rw [← eH]
    exact q _ (rv.back e03)
  · obtain ⟨xs, e4, h4⟩ := Wp.opt h5
    obtain ⟨a', vs, rfl, hs, rr⟩ := lst_rd o3 r3 e4
    refine .inr ⟨a', vs, rfl, .of hs, fun p hp => ?_⟩
    obtain ⟨S4, r, eH, e4, o4, rv, q⟩ := rq_own (S0 := S0) o3 h4 (cut_rd rr i j) p hp
    rw [← eH]
    exact q _ (rv.back e03)

/-! ### argument lists -/
def Plain (e : Expr) : Prop := ∀ (es : List Expr) (env : Env), starEach (e :: es) env = (false, eval e env) :: starEach es env
def PlainL (es : List Expr) : Prop := ∀ e ∈ es, Plain e
theorem plain_back {es : List Expr} (h : PlainL es) (pos : Pos) (env : Env) : (backTo pos (starEach es env)).any (·.1) = false := by
  induction es with
  | nil => rfl
  | cons e es ih =>
    rw [h e (by simp)]
    have q := ih fun x hx => h x (by simp [hx])
    unfold backTo at q ⊢
    simp only [List.map_cons, List.any_cons, Bool.false_or]
    exact q
theorem rds_nil : PA X [] (RDs X.K C .nil) := by
  refine PA.to pa_nil fun σ H Q h => ?_
  obtain ⟨S0, S, sl, rfl, f, h⟩ := h
  unfold evalDs at h
  exact Wp.pure f.ok h [] Reps.nil
theorem rds_cons {a : ME} {r : MEs} {x : Expr} {xs : List Expr} (pl : Plain x) (ha : PE X x (RD X.K C a)) (hr : PA X xs (RDs X.K C r)) : PA X (x :: xs) (RDs X.K C (.cons a r)) := by
  refine PA.to (pa_cons ha hr (pl _ _)) fun σ H Q h => ?_
  obtain ⟨S0, S, sl, rfl, f, h⟩ := h
  unfold evalDs at h
  refine RD.mk f h.bind fun d S1 v e1 o1 h1 r1 => RDs.mk (f.mono o1 e1) h1.bind fun ds S2 vs e2 o2 h2 r2 => ?_
  exact Wp.pure o2 h2 _ (Reps.cons (Rep.mono o1 e2 _ _ r1) r2)
theorem res_nil : PA X [] (REs X.K C .nil) := by
  refine PA.to pa_nil fun σ H Q h => ?_
  obtain ⟨S0, S, sl, rfl, f, h⟩ := h
  unfold evalEs at h
  exact Wp.pure f.ok h [] rfl
theorem res_cons {a : ME} {r : MEs} {x : Expr} {xs : List Expr} (pl : Plain x) (ha : PE X x (RE X.K C a)) (hr : PA X xs (REs X.K C r)) : PA X (x :: xs) (REs X.K C (.cons a r)) := by
  refine PA.to (pa_cons ha hr (pl _ _)) fun σ H Q h => ?_
  obtain ⟨S0, S, sl, rfl, f, h⟩ := h
  unfold evalEs at h
  refine RE.mk f h.bind fun d S1 v e1 o1 h1 r1 => REs.mk (f.mono o1 e1) h1.bind fun ds S2 vs e2 o2 h2 r2 => ?_
  exact Wp.pure o2 h2 _ ⟨v, vs, rfl, r1.mono o1 e2, r2.back e1⟩

/-! ### built-in functions -/
def relF (K : PySem.W.Frag) : BltO → List V → Hp → VK → Prop
  | .len => fun xs H Q => ∃ p ys, xs = [.ref p] ∧ (SqL K H p ys ∨ SqT K H p ys) ∧ Q (.int ys.length) H
  | .abs => fun xs H Q => ∃ i, xs = [.int i] ∧ Q (.int (if i < 0 then -i else i)) H
  | .min2 => fun xs H Q => ∃ i j, xs = [.int i, .int j] ∧ Q (.int (if j < i then j else i)) H
  | .max2 => fun xs H Q => ∃ i j, xs = [.int i, .int j] ∧ Q (.int (if j > i then j else i)) H
  | .list_ => fun xs H Q => ∃ p ys, xs = [.ref p] ∧ (SqL K H p ys ∨ SqT K H p ys) ∧ ∀ l, H l = none → Q (.ref l) (upd H l (.lst ys))
  | .tuple_ => fun xs H Q => ∃ p ys, xs = [.ref p] ∧ ((SqL K H p ys ∧ ∀ l, H l = none → Q (.ref l) (upd H l (.tup ys))) ∨ (SqT K H p ys ∧ Q (.ref p) H))
  | .all_ => rAll K
  | _ => fun _ _ _ => False
theorem bls_rd : ∀ {xs : List D} {vs : List V} {b : Bool}, Reps K S xs vs → allBl xs = some b → ∃ bs : List Bool, vs = bs.map V.bl ∧ bs.all id = b
  | [], vs, b, h, e => by unfold Reps at h; unfold allBl at e; cases e; subst h; exact ⟨[], rfl, rfl⟩
  | x :: xs, vs, b, h, e => by
    unfold Reps at h
    obtain ⟨v, vs', rfl, a, r⟩ := h
    cases x with
    | bl k =>
      unfold allBl at e
      cases q : allBl xs with
      | none => rw [q] at e; cases e
      | some c =>
        rw [q] at e; cases e
        obtain ⟨bs, rfl, hb⟩ := bls_rd r q
        unfold Rep at a
        subst a
        exact ⟨k :: bs, rfl, by rw [List.all_cons, hb]; rfl⟩
    | _ => unfold allBl at e; cases e
theorem rvs_one {r : RV} {vs : List V} (h : RVs K S0 S S' [r] vs) : ∃ v, vs = [v] ∧ RVRep K S0 S S' r v := by
  obtain ⟨v, vs', rfl, a, b⟩ := h
  cases b
  exact ⟨v, rfl, a⟩
theorem rvs_two {r q : RV} {vs : List V} (h : RVs K S0 S S' [r, q] vs) : ∃ v w, vs = [v, w] ∧ RVRep K S0 S S' r v ∧ RVRep K S0 S S' q w := by
  obtain ⟨v, vs', rfl, a, b⟩ := h
  obtain ⟨w, rfl, c⟩ := rvs_one b
  exact ⟨v, w, rfl, a, c⟩
theorem seq_one {r : RV} {v : V} {xs : List D} (ok : WOk K S) (h : RVRep K S0 Sa S r v) (e : r.seq S.ah = some xs) : ∃ a vs, v = .ref a ∧ ((SqL K S.H a vs) ∨ (SqT K S.H a vs ∧ r = .val (.tup xs))) ∧ Reps K S xs vs := by
  unfold RV.seq at e
  split at e
  · cases e
    unfold RVRep Rep at h
    obtain ⟨a, vs, rfl, h1, r⟩ := h
    exact ⟨a, vs, rfl, .inr ⟨h1, rfl⟩, r⟩
  · cases e
    rename_i ns
    unfold RVRep Rep at h
    obtain ⟨a, rfl, h1⟩ := h
    exact ⟨a, _, rfl, .inl h1.sqL, Reps.ints ns⟩
  · obtain ⟨a, vs, rfl, h1, r⟩ := lst_rd ok h e
    exact ⟨a, vs, rfl, .inl (.of h1), r⟩
theorem rel_blt {f : BltO} {rs : List RV} {vs : List V} {p : RV → Wd → Prop} {Q : VK} {S0 Sa : Wd} (hf : ∀ cs, f ≠ .isi cs) (ok : WOk K S) (r : RVs K S0 Sa S rs vs) (h : Wp K E0x (bltSem f rs) S p) (hQ : ∀ v H', RQ K S0 S p v H' → Q v H') : relF K f vs S.H Q := by
  unfold bltSem at h
  split at h
  · obtain ⟨v, rfl, r1⟩ := rvs_one r
    have h := Wp.getH h
    obtain ⟨xs, e, h⟩ := Wp.opt h
    obtain ⟨a, ws, rfl, hs, rr⟩ := seq_rd ok r1 e
    exact ⟨a, ws, rfl, hs, hQ _ _ (rq_val ok h (by unfold Rep; rw [rr.length]))⟩
  · obtain ⟨v, rfl, r1⟩ := rvs_one r
    unfold RVRep Rep at r1
    subst r1
    exact ⟨_, rfl, hQ _ _ (rq_val ok h (by unfold Rep; rfl))⟩
  · obtain ⟨v, w, rfl, r1, r2⟩ := rvs_two r
    unfold RVRep Rep at r1 r2
    subst r1; subst r2
    exact ⟨_, _, rfl, hQ _ _ (rq_val ok h (by unfold Rep; rfl))⟩
  · obtain ⟨v, w, rfl, r1, r2⟩ := rvs_two r
    unfold RVRep Rep at r1 r2
    subst r1; subst r2
    exact ⟨_, _, rfl, hQ _ _ (rq_val ok h (by unfold Rep; rfl))⟩
  · obtain ⟨v, rfl, r1⟩ := rvs_one r
    have h := Wp.getH h
    obtain ⟨xs, e, h⟩ := Wp.opt h
    obtain ⟨a, ws, rfl, hs, rr⟩ := seq_rd ok r1 e
    exact ⟨a, ws, rfl, hs, fun l hl => hQ _ _ (rq_own ok h rr l hl)⟩
  · obtain ⟨v, rfl, r1⟩ := rvs_one r
    have h := Wp.getH h
    obtain ⟨xs, e, h⟩ := Wp.opt h
    obtain ⟨a, ws, rfl, hs, rr⟩ := seq_one ok r1 e
    refine ⟨a, ws, rfl, ?_⟩
    rcases hs with hs | ⟨hs, er⟩
    · exact .inl ⟨hs, fun l hl => hQ _ _ (rq_tup ok h rr l hl)⟩
    · exact .inr ⟨hs, hQ _ _ (rq_val ok h (by unfold Rep; exact ⟨a, ws, rfl, hs, rr⟩))⟩
  · obtain ⟨v, rfl, r1⟩ := rvs_one r
    have h := Wp.getH h
    obtain ⟨xs, e, h⟩ := Wp.opt h
    obtain ⟨b, e2, h⟩ := Wp.opt h
    obtain ⟨a, ws, rfl, hs, rr⟩ := lst_rd ok r1 e
    obtain ⟨bs, rfl, hb⟩ := bls_rd rr e2
    exact ⟨a, bs, rfl, .of hs, by rw [hb]; exact hQ _ _ (rq_val ok h (by unfold Rep; rfl))⟩
  · exact absurd rfl (hf _)
  · exact absurd rfl (hf _)
  · exact h.elim
def bltName : BltO → Str
  | .len => "len" | .abs => "abs" | .min2 => "min" | .max2 => "max" | .minL => "min" | .maxL => "max" | .sumL => "sum" | .list_ => "list" | .tuple_ => "tuple" | .all_ => "all" | .int_ => "int" | .str_ => "str" | .isi _ => "isinstance"
theorem re_bltF {f : BltO} {es : MEs} {x : Expr} {xs : List Expr} {p pos : Pos} (hf : ∀ cs, f ≠ .isi cs) (hc : X.calm = true) (hg : Gl X (bltName f)) (hm : X.mg (bltName f) = none) (pl : PlainL (x :: xs)) (ha : PA X (x :: xs) (REs X.K C es)) :
    PE X (.Call (.Name (bltName f) p) (x :: xs) [] pos) (RE X.K C (.blt f es)) := by
  have he := pl x (by simp) xs X.env
  have hpl := plain_back (es := xs) (fun y hy => pl y (by simp [hy])) pos X.env
  have key : PE X (.Call (.Name (bltName f) p) (x :: xs) [] pos) (tCB (relF X.K f) (REs X.K C es)) → PE X (.Call (.Name (bltName f) p) (x :: xs) [] pos) (RE X.K C (.blt f es)) := fun hp => PE.to hp fun σ H Q h => by
    obtain ⟨S0, S, sl, rfl, fr, h⟩ := h
    unfold evalE at h
    refine REs.mk fr h.bind fun rs S1 vs e1 o1 h1 r1 => ?_
    refine rel_blt (S0 := S0) hf o1 r1 h1 fun v H' ⟨S2, r, eH, e2, o2, rv, q⟩ => ?_
    subst eH
    exact q v (rv.back e1)
  cases f with
  | len => exact key (pe_callB call_len_seq hg hm (by decide +kernel) ha (by decide +kernel) (by decide +kernel) he hpl)
  | abs => exact key (pe_callB call_abs hg hm (by decide +kernel) ha (by decide +kernel) (by decide +kernel) he hpl)
  | min2 => exact key (pe_callB (call_min2 hc) hg hm (by decide +kernel) ha (by decide +kernel) (by decide +kernel) he hpl)
  | max2 => exact key (pe_callB (call_max2 hc) hg hm (by decide +kernel) ha (by decide +kernel) (by decide +kernel) he hpl)
  | list_ => exact key (pe_callTy call_list_of hg hm (by decide +kernel) ha (by decide +kernel) (by decide +kernel) he hpl)
  | tuple_ => exact key (pe_callTy call_tuple_of hg hm (by decide +kernel) ha (by decide +kernel) (by decide +kernel) he hpl)
  | all_ => exact key (pe_callB (cr_all hc) hg hm (by decide +kernel) ha (by decide +kernel) (by decide +kernel) he hpl)
  | minL => exact key (pe_callB (id := "min") (fun _ _ _ _ _ _ _ _ _ h => h.elim) hg hm (by decide +kernel) ha (by decide +kernel) (by decide +kernel) he hpl)
  | maxL => exact key (pe_callB (id := "max") (fun _ _ _ _ _ _ _ _ _ h => h.elim) hg hm (by decide +kernel) ha (by decide +kernel) (by decide +kernel) he hpl)
  | sumL => exact key (pe_callB (id := "sum") (fun _ _ _ _ _ _ _ _ _ h => h.elim) hg hm (by decide +kernel) ha (by decide +kernel) (by decide +kernel) he hpl)
  | int_ => exact key (pe_callTy (T := "int") (fun _ _ _ _ _ _ _ _ _ h => h.elim) hg hm (by decide +kernel) ha (by decide +kernel) (by decide +kernel) he hpl)
  | str_ => exact key (pe_callTy (T := "str") (fun _ _ _ _ _ _ _ _ _ h => h.elim) hg hm (by decide +kernel) ha (by decide +kernel) (by decide +kernel) he hpl)
  | isi cs => exact absurd rfl (hf cs)

/-! ### isinstance -/
def clsN : Cls → String
  | .int => "int" | .bool => "bool" | .str => "str" | .list => "list" | .tuple => "tuple"
theorem kit_cls (k c : Cls) : PySem.W.kitOne K (.type (clsN k)) (.type (clsN c)) = some (k.under c) := by
  cases k <;> cases c <;> exact kit_ty (by decide +kernel)
theorem kit_non (c : Cls) : PySem.W.kitOne K (.type "NoneType") (.type (clsN c)) = some false := by
  cases c <;> exact kit_ty (by decide +kernel)
theorem kits_cls (k : Cls) : ∀ cs : List Cls, PySem.W.kitAny K (.type (clsN k)) (cs.map fun c => .type (clsN c)) = some (cs.any fun c => k.under c)
  | [] => kitAny_nil
  | c :: cs => by
    refine kitAny_cons (kit_cls k c) (fun h => ?_) (fun h => ?_)
    · rw [List.any_cons, h, Bool.false_or]; exact kits_cls k cs
    · rw [List.any_cons, h, Bool.true_or]
theorem kits_non : ∀ cs : List Cls, PySem.W.kitAny K (.type "NoneType") (cs.map fun c => .type (clsN c)) = some false
  | [] => kitAny_nil
  | c :: cs => kitAny_cons (kit_non c) (fun h => kits_non cs) (fun h => by cases h)
theorem ty_tup {a : Addr} {vs : List V} (h : SqT K S.H a vs) : TyX K S.H (.ref a) (.type "tuple") := by
  rcases h with (h | ⟨o, h⟩) | ⟨o, its, n, hk, hc, _⟩
  · exact .base (.tup h)
  · exact .fTuple h
  · exact .kTuple hk hc
theorem ty_scr {a : Addr} {vs : List V} (h : ScL K S.H a vs) : TyX K S.H (.ref a) (.type "list") := by
  rcases h with ⟨o, h⟩ | ⟨o, its, n, hk, hc, _⟩
  · exact .base (.frz h)
  · exact .kList hk hc
theorem kind_rd (ok : WOk K S) {d : D} {v : V} {k : Cls} (r : Rep K S d v) (h : d.kind S.ah = some k) : TyX K S.H v (.type (clsN k)) := by
  cases d with
  | non => unfold D.kind at h; cases h
  | bl b => unfold D.kind at h; cases h; unfold Rep at r; subst r; exact .base (.bl b)
  | int b => unfold D.kind at h; cases h; unfold Rep at r; subst r; exact .base (.int b)
  | str b => unfold D.kind at h; cases h; unfold Rep at r; subst r; exact .base (.str b)
  | tup xs => unfold D.kind at h; cases h; unfold Rep at r; obtain ⟨a, vs, rfl, h1, _⟩ := r; exact ty_tup h1
  | lst xs => unfold D.kind at h; cases h; unfold Rep at r; obtain ⟨a, vs, rfl, h1, _⟩ := r; exact .base (.lst h1)
  | scr xs => unfold D.kind at h; cases h; unfold Rep at r; obtain ⟨a, rfl, h1⟩ := r; exact ty_scr h1
  | ref t =>
    have h' : (match S.ah[t]? with | some (.lst _) => some Cls.list | _ => none) = some k := h
    split at h'
    · cases h'
      rename_i q
      unfold Rep at r
      obtain ⟨h1, rfl⟩ := r
      obtain ⟨vs, h2, _⟩ := ok.obj _ _ q
      exact .base (.lst h2)
    · cases h'
theorem isi_rd {cs : List Cls} {r : RV} {v : V} {p : RV → Wd → Prop} {S0 Sa : Wd} (ok : WOk K S) (rv : RVRep K S0 Sa S r v) (h : Wp K E0x (bltSem (.isi cs) [r]) S p) :
    ∃ t b, TyX K S.H v (.type t) ∧ PySem.W.kitAny K (.type t) (cs.map fun c => .type (clsN c)) = some b ∧ (∀ c, cs = [c] → PySem.W.kitOne K (.type t) (.type (clsN c)) = some b) ∧ p (vB b) S := by
  have one : ∀ {t : String} {f : Cls → Bool}, (∀ c, PySem.W.kitOne K (.type t) (.type (clsN c)) = some (f c)) → ∀ c, cs = [c] → PySem.W.kitOne K (.type t) (.type (clsN c)) = some (cs.any f) := fun hk c e => by
    subst e
    rw [hk c]
    simp
  have fin : ∀ {d : D} {k : Cls}, Rep K S d v → d.kind S.ah = some k → Wp K E0x (pure (vB (cs.any fun c => k.under c))) S p → ∃ t b, TyX K S.H v (.type t) ∧ PySem.W.kitAny K (.type t) (cs.map fun c => .type (clsN c)) = some b ∧ (∀ c, cs = [c] → PySem.W.kitOne K (.type t) (.type (clsN c)) = some b) ∧ p (vB b) S := fun r hk h =>
    ⟨_, _, kind_rd ok r hk, kits_cls _ cs, one fun c => kit_cls _ c, Wp.pure ok h⟩
  cases r with
  | brw xs => exact h.elim
  | own xs =>
    obtain ⟨a, rfl, vs, h1, _⟩ := rv
    exact ⟨_, _, .base (.lst h1), kits_cls .list cs, one fun c => kit_cls .list c, Wp.pure ok h⟩
  | val d =>
    cases d with
    | non =>
      unfold RVRep Rep at rv
      subst rv
      have h : Wp K E0x (pure (vB false)) S p := h
      exact ⟨_, _, .base .non, kits_non cs, fun c e => kit_non c, Wp.pure ok h⟩
    | bl b => exact fin rv rfl h
    | int b => exact fin rv rfl h
    | str b => exact fin rv rfl h
    | tup b => exact fin rv rfl h
    | lst b => exact fin rv rfl h
    | scr b => exact fin rv rfl h
    | ref t =>
      have h : Wp K E0x (do let k ← Wb.opt ((D.ref t).kind S.ah); pure (vB (cs.any fun c => k.under c))) S p := h
      obtain ⟨k, e, h⟩ := Wp.opt h
      exact fin rv e h
/-- .. with what the evaluator promises of every other state of the same abstract heap -/
theorem RE.mk' {e : ME} {Q : VK} {p : RV → Wd → Prop} (f : Fr K S0 S sl σ) (h : Wp K E0x (evalE C e sl) S p)
    (q : ∀ r S' v, Ext S S' → WOk K S' → (∀ S2, Ext S S2 → WOk K S2 → S2.ah = S'.ah → p r S2) → RVRep K S0 S S' r v → Q v S'.H) : RE K C e σ S.H Q := by
  refine ⟨S0, S, sl, rfl, f, ?_⟩
  unfold Wp at h ⊢
  cases e1 : evalE C e sl S.ah with
  | stuck => rw [e1] at h; exact h
  | exc x h' => rw [e1] at h; exact h
  | ok r h' =>
    rw [e1] at h
    intro S' e' o' z' v rv
    exact q r S' v e' o' (fun S2 e2 o2 z2 => h S2 e2 o2 (z2.trans z')) rv
def clsNm (c : Cls) : Str := Str.ofString (clsN c)
theorem pe_cls {c : Cls} {p : Pos} (hg : Gl X (clsNm c)) (hm : X.mg (clsNm c) = none) : PE X (.Name (clsNm c) p) (tC (.ty (clsN c))) := by
  cases c <;> exact pe_bltn hg hm (by decide +kernel) rfl (by decide +kernel) (by decide +kernel)
theorem re_isi1 {c : Cls} {a : ME} {x : Expr} {p1 p2 pos : Pos} (hg : Gl X "isinstance") (hm : X.mg "isinstance" = none) (hgc : Gl X (clsNm c)) (hmc : X.mg (clsNm c) = none) (pl : Plain x) (ha : PE X x (RE X.K C a)) :
    PE X (.Call (.Name "isinstance" p1) [x, .Name (clsNm c) p2] [] pos) (RE X.K C (.blt (.isi [c]) (.cons a .nil))) := by
  have plc : Plain (.Name (clsNm c) p2) := fun _ _ => rfl
  refine PE.to (pe_callB call_isi hg hm PyProof.Rows.boot_isinstance (pa_cons ha (pa_cons (pe_cls hgc hmc) pa_nil (plc _ _)) (pl _ _)) (by decide +kernel) (by decide +kernel) (pl _ _) (plain_back (es := [.Name (clsNm c) p2]) (fun y hy => by simp only [List.mem_singleton] at hy; subst hy; exact plc) _ _)) fun σ H Q h => ?_
  obtain ⟨S0, S, sl, rfl, fr, h⟩ := h
  unfold evalE evalEs at h
  have h := h.unassoc
  refine RE.mk fr h.bind fun r S1 v e1 o1 h1 r1 => ?_
  unfold evalEs at h1
  obtain ⟨t, b, ty, _, hk, q⟩ := isi_rd (S0 := S0) o1 r1 h1
  exact ⟨v, .ty (clsN c), .type t, .type (clsN c), b, rfl, .ty _, ty, hk c rfl, q _ (by unfold RVRep Rep; rfl)⟩
/-- a tuple of classes -/
theorem pa_clss : ∀ {cs : List Cls} {ns : List Expr}, ns.length = cs.length → (∀ (i : Nat) (c : Cls) (n : Expr), cs[i]? = some c → ns[i]? = some n → ∃ p, n = .Name (clsNm c) p) → (∀ c ∈ cs, Gl X (clsNm c) ∧ X.mg (clsNm c) = none) →
    PA X ns (fun σ H Q => Q (cs.map fun c => V.ty (clsN c)) H)
  | [], [], _, _, _ => PA.to pa_nil fun σ H Q h => h
  | c :: cs, n :: ns, hl, hn, hg => by
    obtain ⟨p, rfl⟩ := hn 0 c n rfl rfl
    have ih := pa_clss (cs := cs) (ns := ns) (by simpa using hl) (fun i c' n' h1 h2 => hn (i + 1) c' n' (by simpa using h1) (by simpa using h2)) fun c' hc => hg c' (by simp [hc])
    exact PA.to (pa_cons (pe_cls (hg c (by simp)).1 (hg c (by simp)).2) ih rfl) fun σ H Q h => h
theorem paired_cls : ∀ cs : List Cls, Paired ClsV (cs.map fun c => V.ty (clsN c)) (cs.map fun c => Value.type (clsN c))
  | [] => .nil
  | c :: cs => .cons (.ty _) (paired_cls cs)
theorem re_isiT {cs : List Cls} {ns : List Expr} {a : ME} {x : Expr} {k : Nat} {p1 p2 pos : Pos} (hg : Gl X "isinstance") (hm : X.mg "isinstance" = none) (hl : ns.length = cs.length) (hn : ∀ (i : Nat) (c : Cls) (n : Expr), cs[i]? = some c → ns[i]? = some n → ∃ p, n = .Name (clsNm c) p)
    (hgc : ∀ c ∈ cs, Gl X (clsNm c) ∧ X.mg (clsNm c) = none) (h10 : cs.length ≤ 10) (pl : Plain x) (ha : PE X x (RE X.K C a)) :
    PE X (.Call (.Name "isinstance" p1) [x, .Tuple ns k p2] [] pos) (RE X.K C (.blt (.isi cs) (.cons a .nil))) := by
  have plc : Plain (.Tuple ns k p2) := fun _ _ => rfl
  refine PE.to (pe_callB call_isiT hg hm PyProof.Rows.boot_isinstance (pa_cons ha (pa_cons (pe_tup (pa_clss hl hn hgc)) pa_nil (plc _ _)) (pl _ _)) (by decide +kernel) (by decide +kernel) (pl _ _) (plain_back (es := [.Tuple ns k p2]) (fun y hy => by simp only [List.mem_singleton] at hy; subst hy; exact plc) _ _)) fun σ H Q h => ?_
  obtain ⟨S0, S, sl, rfl, fr, h⟩ := h
  unfold evalE evalEs at h
  have h := h.unassoc
  refine RE.mk' fr h.bind fun r S1 v e1 o1 h1 r1 => ?_
  refine ⟨by rw [List.length_map]; exact Nat.le_trans h10 (by decide), fun q hq => ?_⟩
  obtain ⟨e2, o2⟩ := laid (o := .tup (cs.map fun c => V.ty (clsN c))) o1 hq
  have h2 := h1 _ (Ext.trans o1 e1 e2) o2 rfl
  unfold evalEs at h2
  obtain ⟨t, b, ty, hk, _, z⟩ := isi_rd (S0 := S0) o2 (r1.mono o1 e2) h2
  exact ⟨v, q, _, .type t, _, b, rfl, upd_same, paired_cls cs, ty, hk, z _ (by unfold RVRep Rep; rfl)⟩

/-! ### calls of the program's own functions -/
/-- what a def promises: what the evaluator says of it -/
def spF (K : PySem.W.Frag) (C : Callee) (g : Nat) : Sp := fun vs H Q _ => ∃ S args, S.H = H ∧ WOk K S ∧ Reps K S args vs ∧ Wp K E0x (C g args) S fun r S' => ∀ v, RVRep K S S S' r v → Q v S'.H
theorem call_rd {g : Nat} {es : MEs} {H : Hp} {Q : VK} (hb : ∀ args (h h' : AH) xs, C g args h ≠ .ok (.brw xs) h') (h : RE K C (.call g es) σ H Q) : RDs K C es σ H fun vs H1 => spF K C g (vs ++ []) H1 Q E0 := by
  obtain ⟨S0, S, sl, rfl, f, h⟩ := h
  unfold evalE at h
  refine RDs.mk f h.bind fun ds S1 vs e1 o1 h1 r1 => ?_
  rw [List.append_nil]
  refine ⟨S1, ds, rfl, o1, r1, ?_⟩
  unfold Wp at h1 ⊢
  cases q : C g ds S1.ah with
  | stuck => rw [q] at h1; exact h1
  | exc x h' => rw [q] at h1; exact h1
  | ok r h' =>
    rw [q] at h1
    intro S' e' o' z' v rv
    refine h1 S' e' o' z' v ?_
    cases r with
    | val d => exact rv
    | own xs => exact RVRep.back e1 rv
    | brw xs => exact absurd q (hb _ _ _ _)
theorem re_call {CX : CXT} {g k : Nat} {es : MEs} {x : Str} {f : Addr} {fd : FuncData} {ps : List Str} {xs : List Expr} {p pos : Pos} (hb : ∀ args (h h' : AH) ys, C g args h ≠ .ok (.brw ys) h')
    (F : FnOk X.prog X.w X.K X.mg X.base CX0 k f fd ps (spF X.K C g)) (hr : Room k X.A) (hg : Gl X x) (hm : X.mg x = some (.ref f)) (hk : PySem.W.keepIn X.K (.ref f) = true) (hbi : Binds X.K fd ps [])
    (hd : (x == ("__debug__" : Str)) = false) (pl : PlainL xs) (hn : xs = [] → es = .nil) (ha : PA X xs (RDs X.K C es)) : PE X (.Call (.Name x p) xs [] pos) (RE X.K C (.call g es)) := by
  cases xs with
  | nil => 
    refine PE.to (pe_call0 F hr hg hm hk hbi .nil pass0 hd) fun σ H Q h => ?_
    have h := call_rd hb h
    rw [hn rfl] at h
    obtain ⟨S0, S, sl, rfl, f, h⟩ := h
    unfold evalDs at h
    exact Wp.pure f.ok h [] Reps.nil
  | cons y ys => exact PE.to (pe_call F hr hg hm hk hbi .nil pass0 ha hd (pl y (by simp) _ _) (plain_back (fun z hz => pl z (by simp [hz])) _ _)) fun σ H Q h => call_rd hb h
end Wb

set_option maxHeartbeats 4000000
/-! What is walked; comprehensions. -/
namespace Wb
open PySem PySem.Spec L2
variable {K : PySem.W.Frag} {C : Callee} {S S1 S2 S' S0 Sa : Wd} {σ : L2.St} {sl : Wb.Sl} {X : Cx}

/-- a list of one's own is changed -/
theorem upd_own (ok : WOk K S) {a : Addr} {xs ys : List D} {ws : List V} (h : OwnAt K S0 S a xs) (r : Reps K S ys ws) :
    ExtT (fun b => b = a) S { S with H := upd S.H a (.lst ws) } ∧ WOk K { S with H := upd S.H a (.lst ws) } ∧ OwnAt K S0 { S with H := upd S.H a (.lst ws) } a ys := by
  obtain ⟨vs, h1, r0, f, m, z⟩ := h
  have e : ExtT (fun b => b = a) S { S with H := upd S.H a (.lst ws) } := by
    refine ⟨Nat.le_refl _, fun _ _ => rfl, fun b u hb _ nb => ?_, fun b hb => ?_, fun _ h => h, fun b h => h.elim .inl fun z => .inr (.inl z)⟩
    · show upd S.H a _ b = _
      rw [upd_ne nb]; exact hb
    · by_cases q : b = a
      · subst q
        have hb' : upd S.H b (.lst ws) b = none := hb
        rw [upd_same] at hb'; cases hb'
      · have hb' : upd S.H a (.lst ws) b = none := hb
        rw [upd_ne q] at hb'; exact hb'
  have tk : Tok (fun b => b = a) S := ⟨fun b z => by rw [z]; exact ⟨vs, h1⟩, fun b z => by rw [z]; exact f⟩
  refine ⟨e, ⟨fun t o h => ?_, ok.inj, fun b hb => ?_⟩, ⟨ws, upd_same, Reps.monoT ok e tk _ _ r, f, m, z⟩⟩
  · have q := ok.obj t o h
    have nt : S.m t ≠ a := fun z => m ⟨t, (List.getElem?_eq_some_iff.mp h).1, z.symm⟩
    cases o with
    | ins c fs => exact q.elim
    | lst ys =>
      obtain ⟨us, h2, r2⟩ := q
      refine ⟨us, ?_, Reps.monoT ok e tk _ _ r2⟩
      show upd S.H a _ (S.m t) = _
      rw [upd_ne nt]; exact h2
  · obtain ⟨⟨us, h2⟩, n⟩ := ok.fz b hb
    have nb : b ≠ a := fun z => f (z ▸ hb)
    refine ⟨⟨us, ?_⟩, n⟩
    show upd S.H a _ b = _
    rw [upd_ne nb]; exact h2
theorem ExtT.after (ok1 : WOk K S1) (e : Ext S S1) {a : Addr} (b : ExtT (fun b => b = a) S1 S2) (z : S.H a = none) : Ext S S2 :=
  ExtT.trans ok1 e b fun c hc => .inr (by rw [hc]; exact z)

/-! ### what is walked -/
theorem PI.or {tg l : Expr} {w1 w2 : TI} (h1 : PI X tg l w1) (h2 : PI X tg l w2) : PI X tg l (fun σ H R => w1 σ H R ∨ w2 σ H R) :=
  ⟨fun pins s σ H R I q => q.elim (h1.run pins s σ H R I) (h2.run pins s σ H R I)⟩
/-- a list that is not changed any more -/
def FzL (K : PySem.W.Frag) (S : Wd) (a : Addr) (vs : List V) : Prop := (S.H a = some (.lst vs) ∧ S.F a) ∨ ScL K S.H a vs
theorem FzL.sqL {a : Addr} {vs : List V} (h : FzL K S a vs) : SqL K S.H a vs := by
  rcases h with ⟨h, _⟩ | h
  · exact .inl (.of h)
  · exact h.sqL
theorem ItOk.list {a : Addr} {xs : List D} {vs : List V} (ok : WOk K S1) (h : FzL K S1 a vs) (r : Reps K S1 xs vs) : ItOk K (Itl K a) xs S1 := by
  intro T S tk e o i
  have hs : SqL K S.H a vs := by
    rcases h with ⟨h, hf⟩ | ⟨ob, h⟩ | h
    · exact .inl (.inl (e.keep a _ h (ok.fz a hf).2 fun z => tk.nfr a z hf))
    · refine .inl (.inr ⟨ob, e.keep a _ h (fun z => ?_) fun z => ?_⟩)
      · obtain ⟨ws, q⟩ := ok.mutL z
        rw [h] at q; cases q
      · obtain ⟨ws, q⟩ := tk.lst a z
        rw [h] at q; cases q
    · exact .inr h
  have rr := Reps.monoT ok e tk _ _ r
  refine ⟨fun d hd => ?_, fun hi => ⟨vs, hs, by rw [← r.length]; exact hi⟩⟩
  obtain ⟨v, hv, rv⟩ := rr.get hd
  refine ⟨⟨vs, v, hs, hv⟩, fun x H' hy => ?_⟩
  obtain ⟨eH, hx⟩ := hy
  have q := hx vs hs
  rw [hv] at q; cases q
  exact ⟨S, eH.symm, rfl, Ext.refl S, o, rv⟩
theorem ItOk.tup {a : Addr} {xs : List D} {vs : List V} (ok : WOk K S1) (h : SqT K S1.H a vs) (r : Reps K S1 xs vs) : ItOk K (Itt K a) xs S1 := by
  intro T S tk e o i
  have hs : SqT K S.H a vs := e.sqT ok tk.lst h
  have rr := Reps.monoT ok e tk _ _ r
  refine ⟨fun d hd => ?_, fun hi => ⟨vs, hs, by rw [← r.length]; exact hi⟩⟩
  obtain ⟨v, hv, rv⟩ := rr.get hd
  refine ⟨⟨vs, v, hs, hv⟩, fun x H' hy => ?_⟩
  obtain ⟨eH, hx⟩ := hy
  have q := hx vs hs
  rw [hv] at q; cases q
  exact ⟨S, eH.symm, rfl, Ext.refl S, o, rv⟩
theorem rngL_length (lo c : Int) : ∀ n, (rngL lo c n).length = n
  | 0 => rfl
  | n + 1 => by unfold rngL; rw [List.length_cons, rngL_length _ c n]
theorem rngL_get (c : Int) : ∀ (n : Nat) (lo : Int) (i : Nat) (d : D), (rngL lo c n)[i]? = some d → i < n ∧ d = .int (lo + (i : Nat) * c)
  | 0, lo, i, d, h => by unfold rngL at h; simp at h
  | n + 1, lo, 0, d, h => by
    unfold rngL at h
    simp at h
    exact ⟨by omega, by rw [← h]; simp⟩
  | n + 1, lo, i + 1, d, h => by
    unfold rngL at h
    simp at h
    obtain ⟨h1, h2⟩ := rngL_get c n _ _ _ h
    refine ⟨by omega, ?_⟩
    rw [h2]
    congr 1
    push_cast
    rw [Int.add_mul]
    omega
theorem ItOk.rng {lo : Int} {n : Nat} (S1 : Wd) : ItOk K (Itr lo n) (rngL lo 1 n) S1 := by
  intro T S tk e o i
  refine ⟨fun d hd => ?_, fun hi => by rw [rngL_length] at hi; exact hi⟩
  obtain ⟨h1, rfl⟩ := rngL_get 1 n lo i d hd
  refine ⟨h1, fun x H' hy => ?_⟩
  obtain ⟨eH, rfl⟩ := hy
  exact ⟨S, eH.symm, rfl, Ext.refl S, o, by unfold Rep; rw [Int.mul_one]⟩
theorem ItOk.rngC {lo c : Int} {n : Nat} (S1 : Wd) : ItOk K (Itc lo c n) (rngL lo c n) S1 := by
  intro T S tk e o i
  refine ⟨fun d hd => ?_, fun hi => by rw [rngL_length] at hi; exact hi⟩
  obtain ⟨h1, rfl⟩ := rngL_get c n lo i d hd
  refine ⟨h1, fun x H' hy => ?_⟩
  obtain ⟨eH, rfl⟩ := hy
  exact ⟨S, eH.symm, rfl, Ext.refl S, o, by unfold Rep; rfl⟩
/-- a list's place: a frozen one, or the script -/
theorem src_rd (ok : WOk K S) {d : D} {v : V} {xs : List D} {h' : AH} (r : Rep K S d v) (h : srcS d S.ah = .ok xs h') : ∃ a vs, v = .ref a ∧ FzL K S a vs ∧ Reps K S xs vs ∧ h' = S.ah := by
  unfold srcS at h
  split at h
  · cases h
    unfold Rep at r
    obtain ⟨a, vs, rfl, h1, f, rr⟩ := r
    exact ⟨a, vs, rfl, .inl ⟨h1, f⟩, rr, rfl⟩
  · cases h
    rename_i ns
    unfold Rep at r
    obtain ⟨a, rfl, h1⟩ := r
    exact ⟨a, ns.map V.int, rfl, .inr h1, Reps.ints _, rfl⟩
  · cases h
theorem wp_src {d : D} {v : V} {β : Type} {k : List D → M β} {p : β → Wd → Prop} (ok : WOk K S) (r : Rep K S d v) (h : Wp K E0x (srcS d >>= k) S p) :
    ∃ xs a vs, v = .ref a ∧ FzL K S a vs ∧ Reps K S xs vs ∧ Wp K E0x (k xs) S p := by
  unfold Wp at h
  rw [bind_def] at h
  cases q : srcS d S.ah with
  | stuck => rw [q] at h; exact h.elim
  | exc x h' => unfold srcS at q; split at q <;> cases q
  | ok xs h' =>
    rw [q] at h
    obtain ⟨a, vs, e, h1, h3, e2⟩ := src_rd ok r q
    subst e2
    exact ⟨xs, a, vs, e, h1, h3, h⟩
/-- a list or a tuple -/
def iAny (K : PySem.W.Frag) (tl : TE) : TI := fun σ H R => tl σ H fun x H1 => ∃ a, x = .ref a ∧ ((∃ xs, SqL K H1 a xs ∧ R (Itl K a) H1) ∨ ∃ xs, SqT K H1 a xs ∧ R (Itt K a) H1)
theorem pi_any {tg l : Expr} {tl : TE} (hl : PE X l tl) : PI X tg l (iAny X.K tl) := by
  refine ⟨fun pins st σ Hp0 R inv hyp => ?_⟩
  refine thn (hl.run pins st σ Hp0 _ inv hyp) fun val st1 ⟨y, HB, invB, rel, res⟩ => ?_
  obtain ⟨ad, rfl, res⟩ := res
  cases rel
  have top : ∀ b : Addr, b ∈ [st1.heap.objs.size] → FpOk X pins HB b := fun b hb => by
    rw [List.mem_singleton.mp hb]
    exact invB.fpOk (Nat.le_refl _) (invB.hok.fresh (Nat.le_refl _))
  rcases res with ⟨ws, isl, res⟩ | ⟨ws, ist, res⟩
  · obtain ⟨arr, rels, shape, _⟩ := invB.list isl
    exact wpAny_pyIter_list shape.isList ⟨_, _, _, _, HB, rfl, invB.kept (t' := st1.toks) fun b o e => Heap.get?_push_of_some _ e, turn_list ad _, ⟨_, Heap.get?_push_size _ rfl, rfl, rfl⟩, top, res⟩
  · obtain ⟨arr, rels, shape, _⟩ := invB.tuple ist
    exact wpAny_pyIter_tuple shape ⟨_, _, _, _, HB, rfl, invB.kept (t' := st1.toks) fun b o e => Heap.get?_push_of_some _ e, turn_tuple ad _, ⟨_, Heap.get?_push_size _ rfl, rfl, rfl⟩, top, res⟩
theorem wp_srcD {d : D} {v : V} {p : List D → Wd → Prop} (ok : WOk K S) (r : Rep K S d v) (h : Wp K E0x (srcD d) S p) :
    ∃ xs a vs, v = .ref a ∧ Reps K S xs vs ∧ p xs S ∧ ((FzL K S a vs) ∨ SqT K S.H a vs) := by
  unfold Wp srcD at h
  cases d with
  | lst xs =>
    unfold Rep at r
    obtain ⟨a, vs, rfl, h1, f, rr⟩ := r
    exact ⟨xs, a, vs, rfl, rr, h S (Ext.refl S) ok rfl, .inl (.inl ⟨h1, f⟩)⟩
  | tup xs =>
    unfold Rep at r
    obtain ⟨a, vs, rfl, h1, rr⟩ := r
    exact ⟨xs, a, vs, rfl, rr, h S (Ext.refl S) ok rfl, .inr h1⟩
  | scr ns =>
    unfold Rep at r
    obtain ⟨a, rfl, h1⟩ := r
    exact ⟨_, a, ns.map V.int, rfl, Reps.ints _, h S (Ext.refl S) ok rfl, .inl (.inr h1)⟩
  | _ => exact h.elim
theorem ri_seq {a : ME} {x tg : Expr} (ha : PE X x (RE X.K C a)) : PI X tg x (RI X.K C (.seq a)) := by
  refine PI.to (pi_any (RE.pd ha)) fun σ H R h => ?_
  obtain ⟨S0, S, sl, rfl, f, h⟩ := h
  unfold evalI at h
  refine RD.mk f h.bind fun d S1 v e1 o1 h1 r1 => ?_
  obtain ⟨xs, a', vs, rfl, rr, q, hs⟩ := wp_srcD o1 r1 h1
  rcases hs with hs | hs
  · exact ⟨a', rfl, .inl ⟨vs, hs.sqL, q _ (ItOk.list o1 hs rr)⟩⟩
  · exact ⟨a', rfl, .inr ⟨vs, hs, q _ (ItOk.tup o1 hs rr)⟩⟩
theorem pa1 {x : Expr} {t : TE} (pl : Plain x) (h : PE X x t) : PA X [x] (tCons t tNil) := pa_cons h pa_nil (pl _ _)
theorem pa2 {x y : Expr} {t u : TE} (pl : Plain x) (pl2 : Plain y) (h : PE X x t) (h2 : PE X y u) : PA X [x, y] (tCons t (tCons u tNil)) := pa_cons h (pa1 pl2 h2) (pl _ _)
theorem pa3 {x y z : Expr} {t u w : TE} (pl : Plain x) (pl2 : Plain y) (pl3 : Plain z) (h : PE X x t) (h2 : PE X y u) (h3 : PE X z w) : PA X [x, y, z] (tCons t (tCons u (tCons w tNil))) := pa_cons h (pa2 pl2 pl3 h2 h3) (pl _ _)
theorem ri_rng1 {a : ME} {x tg : Expr} {p pos : Pos} (hg : Gl X "range") (hm : X.mg "range" = none) (pl : Plain x) (ha : PE X x (RE X.K C a)) : PI X tg (.Call (.Name "range" p) [x] [] pos) (RI X.K C (.rng1 a)) := by
  refine PI.to (pi_range1 hg hm (pa1 pl ha) (pl _ _)) fun σ H R h => ?_
  obtain ⟨S0, S, sl, rfl, f, h⟩ := h
  unfold evalI at h
  refine RE.mk f h.bind fun d S1 v e1 o1 h1 r1 => ?_
  obtain ⟨i, e1', e2', q⟩ := int_of o1 r1 h1
  subst e1'
  obtain ⟨c, q⟩ := Wp.guard o1 q
  exact ⟨i, rfl, c.1, c.2, Wp.pure o1 q _ (ItOk.rng S1)⟩
theorem ri_rng2 {a b : ME} {x y tg : Expr} {p pos : Pos} (hg : Gl X "range") (hm : X.mg "range" = none) (pl : Plain x) (pl2 : Plain y) (ha : PE X x (RE X.K C a)) (hb : PE X y (RE X.K C b)) : PI X tg (.Call (.Name "range" p) [x, y] [] pos) (RI X.K C (.rng2 a b)) := by
  refine PI.to (pi_range2 hg hm (pa2 pl pl2 ha hb) (by rw [pl, pl2]; rfl) (by rw [pl2]; rfl)) fun σ H R h => ?_
  obtain ⟨S0, S, sl, rfl, f, h⟩ := h
  unfold evalI at h
  dsimp only [iRng2, tCons, tNil]
  refine RE.mk f h.bind fun ra S1 v e1 o1 h1 r1 => ?_
  refine RE.mk (f.mono o1 e1) h1.bind fun rb S2 w e2 o2 h2 r2 => ?_
  obtain ⟨i, e1', e2', q⟩ := int_of o2 (r1.mono o1 e2) h2
  obtain ⟨j, e3', e4', q⟩ := int_of o2 r2 q
  subst e1'; subst e3'
  obtain ⟨c, q⟩ := Wp.guard o2 q
  exact ⟨i, j, rfl, ⟨c.1.1, c.1.2, c.2.1, c.2.2⟩, Wp.pure o2 q _ (ItOk.rng S2)⟩
theorem ri_rng3 {a b c : ME} {x y z tg : Expr} {p pos : Pos} (hg : Gl X "range") (hm : X.mg "range" = none) (pl : Plain x) (pl2 : Plain y) (pl3 : Plain z) (ha : PE X x (RE X.K C a)) (hb : PE X y (RE X.K C b)) (hc : PE X z (RE X.K C c)) :
    PI X tg (.Call (.Name "range" p) [x, y, z] [] pos) (RI X.K C (.rng3 a b c)) := by
  refine PI.to (pi_range3 hg hm (pa3 pl pl2 pl3 ha hb hc) (pl _ _) (plain_back (es := [y, z]) (fun w hw => by simp only [List.mem_cons, List.not_mem_nil, or_false] at hw; rcases hw with rfl | rfl <;> assumption) _ _)) fun σ H R h => ?_
  obtain ⟨S0, S, sl, rfl, f, h⟩ := h
  unfold evalI at h
  dsimp only [iRng3, tCons, tNil]
  refine RE.mk f h.bind fun ra S1 v e1 o1 h1 r1 => ?_
  refine RE.mk (f.mono o1 e1) h1.bind fun rb S2 w e2 o2 h2 r2 => ?_
  refine RE.mk (f.mono o2 (Ext.trans o1 e1 e2)) h2.bind fun rc S3 u e3 o3 h3 r3 => ?_
  obtain ⟨i, e1', e2', q⟩ := int_of o3 ((r1.mono o1 e2).mono o2 e3) h3
  obtain ⟨j, e3', e4', q⟩ := int_of o3 (r2.mono o2 e3) q
  obtain ⟨k, e5', e6', q⟩ := int_of o3 r3 q
  subst e1'; subst e3'; subst e5'
  obtain ⟨c, q⟩ := Wp.guard o3 q
  exact ⟨i, j, k, _, rfl, ⟨c.1, c.2.1, c.2.2, PyProof.Rows.rangeSize_toNat i j k⟩, Wp.pure o3 q _ (ItOk.rngC S3)⟩
theorem enumL_length : ∀ (n : Nat) (xs : List D), (enumL n xs).length = xs.length
  | n, [] => rfl
  | n, x :: xs => by unfold enumL; rw [List.length_cons, enumL_length]; rfl
theorem enumL_get : ∀ (xs : List D) (n i : Nat) (d : D), (enumL n xs)[i]? = some d → ∃ x, xs[i]? = some x ∧ d = .tup [.int ((n + i : Nat) : Int), x]
  | [], n, i, d, h => by unfold enumL at h; simp at h
  | x :: xs, n, 0, d, h => by
    unfold enumL at h
    simp at h
    exact ⟨x, rfl, by rw [← h]; simp⟩
  | x :: xs, n, i + 1, d, h => by
    unfold enumL at h
    simp at h
    obtain ⟨y, h1, h2⟩ := enumL_get xs (n + 1) i d h
    refine ⟨y, by simpa using h1, ?_⟩
    rw [h2, show n + 1 + i = n + (i + 1) by omega]
theorem stay_list {T : Addr → Prop} {a : Addr} {vs : List V} (ok : WOk K S1) (h : FzL K S1 a vs) (tk : Tok T S1) (e : ExtT T S1 S) : SqL K S.H a vs := by
  rcases h with ⟨h, hf⟩ | ⟨ob, h⟩ | h
  · exact .inl (.inl (e.keep a _ h (ok.fz a hf).2 fun z => tk.nfr a z hf))
  · refine .inl (.inr ⟨ob, e.keep a _ h (fun z => ?_) fun z => ?_⟩)
    · obtain ⟨ws, q⟩ := ok.mutL z
      rw [h] at q; cases q
    · obtain ⟨ws, q⟩ := tk.lst a z
      rw [h] at q; cases q
  · exact .inr h
theorem ItOk.enum {a : Addr} {xs : List D} {vs : List V} (ok : WOk K S1) (h : FzL K S1 a vs) (r : Reps K S1 xs vs) : ItOk K (Ite K a) (enumL 0 xs) S1 := by
  intro T S tk e o i
  have hs := stay_list ok h tk e
  have rr := Reps.monoT ok e tk _ _ r
  refine ⟨fun d hd => ?_, fun hi => ⟨vs, hs, by rw [enumL_length] at hi; rw [← r.length]; exact hi⟩⟩
  obtain ⟨x, hx, rfl⟩ := enumL_get xs 0 i d hd
  obtain ⟨v, hv, rv⟩ := rr.get hx
  refine ⟨⟨vs, v, hs, hv⟩, fun y H' hy => ?_⟩
  obtain ⟨p, z, rfl, hp, eH, hz⟩ := hy
  have q := hz vs hs
  rw [hv] at q; cases q
  obtain ⟨e2, o2⟩ := laid (o := .tup [.int (i : Nat), v]) o hp
  refine ⟨{ S with H := upd S.H p (.tup [.int (i : Nat), v]) }, eH.symm, rfl, e2, o2, ?_⟩
  rw [Nat.zero_add]
  exact laid_tup o hp (Reps.cons (by unfold Rep; rfl) (Reps.cons rv Reps.nil))
theorem ri_enum {a : ME} {x : Expr} {p pos tpos : Pos} {elts : List Expr} {kk : Nat} (hg : Gl X "enumerate") (hm : X.mg "enumerate" = none) (pl : Plain x) (ha : PE X x (RE X.K C a)) :
    PI X (.Tuple elts kk tpos) (.Call (.Name "enumerate" p) [x] [] pos) (RI X.K C (.enum a)) := by
  refine PI.to (pi_enum hg hm (pa1 pl (RE.pd ha)) (pl _ _)) fun σ H R h => ?_
  obtain ⟨S0, S, sl, rfl, f, h⟩ := h
  unfold evalI at h
  refine RD.mk f h.bind fun d S1 v e1 o1 h1 r1 => ?_
  obtain ⟨xs, a', vs, rfl, hs, rr, q⟩ := wp_src o1 r1 h1
  exact ⟨a', vs, rfl, hs.sqL, Wp.pure o1 q _ (ItOk.enum o1 hs rr)⟩
theorem zipL_len : ∀ (xs ys : List D), (zipL xs ys).length = min xs.length ys.length
  | [], ys => by unfold zipL; simp
  | x :: xs, [] => by unfold zipL; simp
  | x :: xs, y :: ys => by unfold zipL; simp only [List.length_cons]; rw [zipL_len]; omega
theorem zipL_get : ∀ (xs ys : List D) (i : Nat) (d : D), (zipL xs ys)[i]? = some d → ∃ x y, xs[i]? = some x ∧ ys[i]? = some y ∧ d = .tup [x, y]
  | [], ys, i, d, h => by unfold zipL at h; simp at h
  | x :: xs, [], i, d, h => by unfold zipL at h; simp at h
  | x :: xs, y :: ys, 0, d, h => by
    unfold zipL at h
    simp at h
    exact ⟨x, y, rfl, rfl, h.symm⟩
  | x :: xs, y :: ys, i + 1, d, h => by
    unfold zipL at h
    simp at h
    obtain ⟨u, w, h1, h2, h3⟩ := zipL_get xs ys i d h
    exact ⟨u, w, by simpa using h1, by simpa using h2, h3⟩
theorem ItOk.zip {a b : Addr} {xs ys : List D} {vs ws : List V} (ok : WOk K S1) (h : FzL K S1 a vs) (r : Reps K S1 xs vs)
    (h' : FzL K S1 b ws) (r' : Reps K S1 ys ws) : ItOk K (Itz K a b) (zipL xs ys) S1 := by
  intro T S tk e o i
  have hs := stay_list ok h tk e
  have hs' := stay_list ok h' tk e
  have rr := Reps.monoT ok e tk _ _ r
  have rr' := Reps.monoT ok e tk _ _ r'
  refine ⟨fun d hd => ?_, fun hi => ⟨vs, ws, hs, hs', by rw [zipL_len] at hi; rw [← r.length, ← r'.length]; omega⟩⟩
  obtain ⟨x, y, hx, hy, rfl⟩ := zipL_get xs ys i d hd
  obtain ⟨v, hv, rv⟩ := rr.get hx
  obtain ⟨w, hw, rw'⟩ := rr'.get hy
  refine ⟨⟨vs, ws, v, w, hs, hs', hv, hw⟩, fun u H' hy => ?_⟩
  obtain ⟨p, z, z', rfl, hp, eH, hz, hz'⟩ := hy
  have q := hz vs hs
  have q' := hz' ws hs'
  rw [hv] at q; cases q
  rw [hw] at q'; cases q'
  obtain ⟨e2, o2⟩ := laid (o := .tup [v, w]) o hp
  exact ⟨{ S with H := upd S.H p (.tup [v, w]) }, eH.symm, rfl, e2, o2, laid_tup o hp (Reps.cons rv (Reps.cons rw' Reps.nil))⟩
theorem ri_zip {a b : ME} {x y : Expr} {p pos tpos : Pos} {elts : List Expr} {kk : Nat} (hg : Gl X "zip") (hm : X.mg "zip" = none) (pl : Plain x) (pl2 : Plain y) (ha : PE X x (RE X.K C a)) (hb : PE X y (RE X.K C b)) :
    PI X (.Tuple elts kk tpos) (.Call (.Name "zip" p) [x, y] [] pos) (RI X.K C (.zip a b)) := by
  refine PI.to (pi_zip hg hm (pa2 pl pl2 (RE.pd ha) (RE.pd hb)) (pl _ _) (plain_back (es := [y]) (fun w hw => by simp only [List.mem_singleton] at hw; subst hw; exact pl2) _ _)) fun σ H R h => ?_
  obtain ⟨S0, S, sl, rfl, f, h⟩ := h
  unfold evalI at h
  dsimp only [iZip, tCons, tNil]
  refine RD.mk f h.bind fun d S1 v e1 o1 h1 r1 => ?_
  refine RD.mk (f.mono o1 e1) h1.bind fun d2 S2 w e2 o2 h2 r2 => ?_
  obtain ⟨xs, a', vs, rfl, hs, rr, q⟩ := wp_src o2 (Rep.mono o1 e2 _ _ r1) h2
  obtain ⟨ys, b', ws, rfl, hs', rr', q⟩ := wp_src o2 r2 q
  exact ⟨a', b', vs, ws, rfl, hs.sqL, hs'.sqL, Wp.pure o2 q _ (ItOk.zip o2 hs rr hs' rr')⟩

/-! ### comprehensions -/
theorem Wp.start {α : Type} {E : Xc → Wd → Prop} {m : M α} {p : α → Wd → Prop} (h : Wp K E m S p) (o : WOk K S') (e : Ext S S') (z : S'.ah = S.ah) : Wp K E m S' p := by
  unfold Wp at h ⊢
  rw [z]
  cases q : m S.ah with
  | stuck => rw [q] at h; exact h
  | exc x h' => rw [q] at h; exact fun S2 e2 o2 z2 => h S2 (Ext.trans o e e2) o2 z2
  | ok r h' => rw [q] at h; exact fun S2 e2 o2 z2 => h S2 (Ext.trans o e e2) o2 z2
/-- the evaluator's promise from the abstract heap h on, of every state that S leads to -/
def WpAt {α : Type} (K : PySem.W.Frag) (E : Xc → Wd → Prop) (S : Wd) (h : AH) (m : M α) (post : α → Wd → Prop) : Prop := match m h with
  | .ok a h' => ∀ S', Ext S S' → WOk K S' → S'.ah = h' → post a S'
  | .exc x h' => ∀ S', Ext S S' → WOk K S' → S'.ah = h' → E x S'
  | .stuck => False
theorem Wp.at_ {α : Type} {E : Xc → Wd → Prop} {m : M α} {p : α → Wd → Prop} (h : Wp K E m S p) : WpAt K E S S.ah m p := h
theorem WpAt.bind {α β : Type} {E : Xc → Wd → Prop} {m : M α} {k : α → M β} {p : β → Wd → Prop} (h : WpAt K E S1 S.ah (m >>= k) p) (o : WOk K S) (e : Ext S1 S) : Wp K E m S fun a S' => WpAt K E S1 S'.ah (k a) p := by
  unfold WpAt at h
  unfold Wp
  rw [bind_def] at h
  cases q : m S.ah with
  | stuck => rw [q] at h; exact h
  | exc x h' => rw [q] at h; exact fun S2 e2 o2 z2 => h S2 (Ext.trans o e e2) o2 z2
  | ok r h' =>
    rw [q] at h
    intro S2 e2 o2 z2
    unfold WpAt
    rw [z2]
    exact h
theorem WpAt.unassoc {α β γ : Type} {E : Xc → Wd → Prop} {h₀ : AH} {m : M α} {k : α → M β} {l : β → M γ} {p : γ → Wd → Prop} (h : WpAt K E S h₀ ((m >>= k) >>= l) p) : WpAt K E S h₀ (m >>= fun a => k a >>= l) p := by
  rw [← M.assoc]; exact h
theorem WpAt.opt {α β : Type} {E : Xc → Wd → Prop} {h₀ : AH} {o : Option α} {k : α → M β} {p : β → Wd → Prop} (h : WpAt K E S h₀ (Wb.opt o >>= k) p) : ∃ a, o = some a ∧ WpAt K E S h₀ (k a) p := by
  unfold WpAt at h
  rw [bind_def] at h
  cases o with
  | none => exact h.elim
  | some a => exact ⟨a, rfl, h⟩
theorem WpAt.guard {β : Type} {E : Xc → Wd → Prop} {h₀ : AH} {c : Prop} [Decidable c] {k : Unit → M β} {p : β → Wd → Prop} (h : WpAt K E S h₀ (guardM c >>= k) p) : c ∧ WpAt K E S h₀ (k ()) p := by
  unfold WpAt at h
  rw [bind_def] at h
  by_cases hc : c
  · refine ⟨hc, ?_⟩
    simp only [guardM, if_pos hc] at h
    exact h
  · simp only [guardM, if_neg hc] at h
theorem WpAt.pure {α : Type} {E : Xc → Wd → Prop} {a : α} {p : α → Wd → Prop} (h : WpAt K E S1 S.ah (Pure.pure a : M α) p) (o : WOk K S) (e : Ext S1 S) : p a S := h S e o rfl
theorem SlRep.unset {sl : Wb.Sl} {σ : L2.St} {i : Nat} (h : SlRep K S0 S sl σ) : SlRep K S0 S (sl.set i none) (σ.set i none) := by
  obtain ⟨l, x, q, oa, o, ne⟩ := h
  have inv : ∀ (j : Nat) (f : FV), (sl.set i none)[j]? = some (some f) → sl[j]? = some (some f) ∧ i ≠ j := fun j f e => by
    rw [List.getElem?_set] at e
    split at e
    · split at e <;> cases e
    · exact ⟨e, by assumption⟩
  refine ⟨by simp [l], x, fun j d' e => ?_, oa, fun j xs e => ?_, fun j k xs ys e e' => ne j k xs ys (inv _ _ e).1 (inv _ _ e').1⟩
  · obtain ⟨e, n⟩ := inv _ _ e
    obtain ⟨v, a, b⟩ := q j d' e
    exact ⟨v, by rw [List.getElem?_set_ne n]; exact a, b⟩
  · obtain ⟨e, n⟩ := inv _ _ e
    obtain ⟨a, b⟩ := o j xs e
    exact ⟨by rw [List.getElem?_set_ne n]; exact a, b⟩
theorem SlRep.wipe {sl : Wb.Sl} {σ : L2.St} (h : SlRep K S0 S sl σ) : ∀ ws : List Nat, SlRep K S0 S (Wb.wipe sl ws) (L2.wipe σ ws)
  | [] => h
  | w :: ws => (SlRep.wipe h ws).unset
theorem wipe_set {σ : L2.St} {v : Option V} : ∀ {ws : List Nat} {i : Nat}, i ∈ ws → L2.wipe (σ.set i v) ws = L2.wipe σ ws
  | w :: ws, i, h => by
    by_cases q : i ∈ ws
    · show (L2.wipe (σ.set i v) ws).set w none = _
      rw [wipe_set q]; rfl
    · have e : i = w := by
        rcases List.mem_cons.mp h with e | e
        · exact e
        · exact absurd e q
      subst e
      show (L2.wipe (σ.set i v) ws).set i none = (L2.wipe σ ws).set i none
      have hh : ∀ ws : List Nat, i ∉ ws → L2.wipe (σ.set i v) ws = (L2.wipe σ ws).set i v := by
        intro ws
        induction ws with
        | nil => intro _; rfl
        | cons u us ih =>
          intro hn
          have n1 : i ≠ u := fun z => hn (by simp [z])
          show (L2.wipe (σ.set i v) us).set u none = _
          rw [ih fun z => hn (by simp [z]), List.set_comm _ _ n1]; rfl
      rw [hh ws q, List.set_set]
theorem wipe_idem {σ : L2.St} : ∀ ws : List Nat, L2.wipe (L2.wipe σ ws) ws = L2.wipe σ ws := by
  intro ws
  have h : ∀ (us : List Nat) (τ : L2.St), (∀ u ∈ us, u ∈ ws) → L2.wipe (L2.wipe τ us) ws = L2.wipe τ ws := by
    intro us
    induction us with
    | nil => intro τ _; rfl
    | cons u us ih =>
      intro τ hu
      show L2.wipe ((L2.wipe τ us).set u none) ws = _
      rw [wipe_set (hu u (by simp)), ih τ fun x hx => hu x (by simp [hx])]
  exact h ws σ fun _ h => h
/-- the reading of a target -/
def gTg (K : PySem.W.Frag) : List Nat → L2.TG
  | [i] => gName i
  | [i, j] => gTup K 2 (gCons (gName i) (gCons (gName j) gNil))
  | [i, j, k] => gTup K 3 (gCons (gName i) (gCons (gName j) (gCons (gName k) gNil)))
  | _ => fun _ _ _ _ => False
theorem gTg_rd {tg : List Nat} {d : D} {x : V} {sl sl2 : Wb.Sl} {σ : L2.St} {Q : L2.St → Hp → Prop} (s : SlRep K S0 S sl σ) (r : Rep K S d x) (h : assign tg d sl = some sl2)
    (hq : ∀ σ2, SlRep K S0 S sl2 σ2 → (∀ ws : List Nat, (∀ i ∈ tg, i ∈ ws) → L2.wipe σ2 ws = L2.wipe σ ws) → (∀ i : Nat, σ2[i]? = σ[i]? ∨ i ∈ tg) → Q σ2 S.H) : gTg K tg x σ S.H Q := by
  unfold assign at h
  split at h
  · rename_i i
    split at h
    · cases h
      exact hq _ (s.set r) (fun ws hw => wipe_set (hw i (by simp))) fun j => by
        by_cases e : i = j
        · exact .inr (by simp [e])
        · exact .inl (List.getElem?_set_ne e)
    · cases h
  · rename_i i j
    split at h
    · split at h
      · cases h
        unfold Rep at r
        obtain ⟨p, vs, rfl, ht, rr⟩ := r
        unfold Reps at rr
        obtain ⟨v, vs, rfl, r1, rr⟩ := rr
        unfold Reps at rr
        obtain ⟨w, vs, rfl, r2, rr⟩ := rr
        unfold Reps at rr
        subst rr
        refine ⟨p, _, rfl, ht, rfl, v, [w], rfl, w, [], rfl, rfl, ?_⟩
        refine hq _ ((s.set r1).set r2) (fun ws hw => ?_) fun k => ?_
        · rw [wipe_set (hw j (by simp)), wipe_set (hw i (by simp))]
        · by_cases e : j = k
          · exact .inr (by simp [e])
          · by_cases e' : i = k
            · exact .inr (by simp [e'])
            · exact .inl (by rw [List.getElem?_set_ne e, List.getElem?_set_ne e'])
      · cases h
    · cases h
  · rename_i i j k
    split at h
    · split at h
      · cases h
        unfold Rep at r
        obtain ⟨p, vs, rfl, ht, rr⟩ := r
        unfold Reps at rr
        obtain ⟨v, vs, rfl, r1, rr⟩ := rr
        unfold Reps at rr
        obtain ⟨w, vs, rfl, r2, rr⟩ := rr
        unfold Reps at rr
        obtain ⟨u, vs, rfl, r3, rr⟩ := rr
        unfold Reps at rr
        subst rr
        refine ⟨p, _, rfl, ht, rfl, v, [w, u], rfl, w, [u], rfl, u, [], rfl, rfl, ?_⟩
        refine hq _ (((s.set r1).set r2).set r3) (fun ws hw => ?_) fun l => ?_
        · rw [wipe_set (hw k (by simp)), wipe_set (hw j (by simp)), wipe_set (hw i (by simp))]
        · by_cases e : k = l
          · exact .inr (by simp [e])
          · by_cases e' : j = l
            · exact .inr (by simp [e'])
            · by_cases e2 : i = l
              · exact .inr (by simp [e2])
              · exact .inl (by rw [List.getElem?_set_ne e, List.getElem?_set_ne e', List.getElem?_set_ne e2])
      · cases h
    · cases h
  · cases h
def RC (K : PySem.W.Frag) (C : Callee) (c : MO) : TT := fun σ H Q => ∃ S0 S sl, S.H = H ∧ Fr K S0 S sl σ ∧ Wp K E0x (evalC C c sl) S fun b S' => Q b S'.H
theorem cmp_rd {e : ME} {tg ws : List Nat} {it : MI} {c : MO} {H : Hp} {Q : VK} (hws : ∀ i ∈ tg, i ∈ ws) (h : RE K C (.cmp e tg it c ws) σ H Q) : tLc (RI K C it) (gTg K tg) (RC K C c) (RD K C e) ws σ H Q := by
  obtain ⟨S0, S, sl, rfl, f, h⟩ := h
  unfold evalE at h
  refine RI.mk f h.bind fun items J S1 e1 o1 h1 hJ => ?_
  intro A hA
  generalize hturn : (fun d => (do
      let sl2 ← opt (assign tg d (Wb.wipe sl ws))
      let k ← evalC C c sl2
      if k then do let d' ← (do let y ← evalE C e sl2; asD y); pure (some d') else pure none : M (Option D))) = turn at h1
  obtain ⟨eA, oA⟩ := laid (o := .lst []) o1 hA
  let W : Nat → Nat → Hp → Prop := fun i n H => n = items.length - i ∧ i ≤ items.length ∧ ∃ Sx acc, Sx.H = H ∧ Ext S1 Sx ∧ WOk K Sx ∧ OwnAt K S1 Sx A acc ∧
    WpAt K E0x S1 Sx.ah (do let ys ← compL turn acc (items.drop i); pure (RV.own ys)) fun r S' => ∀ v, RVRep K S0 S S' r v → Q v S'.H
  refine ⟨W, ⟨items.length, by simp, Nat.zero_le _, _, [], rfl, eA, oA, laid_own o1 hA Reps.nil, h1.at_⟩, ?_⟩
  rintro i n H ⟨rfl, hi, Sx, acc, rfl, ex, ox, ow, hw⟩
  have it := hJ _ Sx (Tok.none S1) ex ox i
  by_cases hlt : i < items.length
  · right
    have hd : items[i]? = some items[i] := List.getElem?_eq_getElem hlt
    obtain ⟨go, yl⟩ := it.1 _ hd
    rw [List.drop_eq_getElem_cons hlt] at hw
    generalize items[i] = d at hd yl hw
    refine ⟨go, fun H' => W (i + 1) (items.length - (i + 1)) H', fun H' w => ⟨_, by omega, w⟩, fun x H' hy => ?_⟩
    obtain ⟨S2, rfl, z2, e2, o2, rx⟩ := yl x H' hy
    have e12 := Ext.trans ox ex e2
    rw [← z2] at hw
    unfold compL at hw
    have hw := hw.unassoc
    rw [← hturn] at hw
    have hw := hw.unassoc
    obtain ⟨sl2, ha, hw⟩ := WpAt.opt hw
    rw [hturn] at hw
    have f2 : SlRep K S0 S2 sl σ := f.sr.mono f.ok (Ext.trans o1 e1 e12)
    refine gTg_rd (f2.wipe ws) rx ha fun σ2 s2 hwp _ => ⟨(hwp ws hws).trans (wipe_idem ws), ?_⟩
    have hw := hw.unassoc
    refine ⟨S0, S2, sl2, rfl, ⟨o2, s2⟩, (hw.bind o2 e12).mono fun b S3 e3 o3 h3 => ?_⟩
    have own3 := (ow.mono ox e2).mono o2 e3
    have e13 := Ext.trans o2 e12 e3
    cases b with
    | false =>
      rw [if_neg (by decide)] at h3
      show W (i + 1) _ S3.H
      exact ⟨rfl, hlt, S3, acc, rfl, e13, o3, own3, h3⟩
    | true =>
      rw [if_pos rfl] at h3
      refine iteT ?_
      have h3 := h3.unassoc
      refine RD.mk ⟨o3, s2.mono o2 e3⟩ (h3.bind o3 e13) fun d' S4 y e4 o4 h4 r4 => ?_
      have h4 := (show WpAt K E0x S1 S4.ah ((guardM (acc.length < sizeLine) >>= fun _ => compL turn (acc ++ [d']) (items.drop (i + 1))) >>= fun ys => pure (RV.own ys)) (fun r S' => ∀ v, RVRep K S0 S S' r v → Q v S'.H) from h4).unassoc
      obtain ⟨hz, h4⟩ := WpAt.guard h4
      have own4 := own3.mono o3 e4
      obtain ⟨vs, hv, rv, _⟩ := id own4
      obtain ⟨e5, o5, own5⟩ := upd_own o4 own4 (rv.append (Reps.cons r4 Reps.nil))
      have e15 := ExtT.after o4 (Ext.trans o3 e13 e4) e5 hA
      exact ⟨vs, hv, by rw [← rv.length]; exact hz, rfl, hlt, _, acc ++ [d'], rfl, e15, o5, own5, h4⟩
  · left
    have e : i = items.length := by omega
    subst e
    refine ⟨it.2 (Nat.le_refl _), ?_⟩
    rw [List.drop_length] at hw
    unfold compL at hw
    exact WpAt.pure hw ox ex _ ⟨A, rfl, ow.back e1⟩
end Wb

set_option maxHeartbeats 4000000
/-! Statements: the readings that the evaluator gives. -/
namespace Wb
open PySem PySem.Spec L2
variable {K : PySem.W.Frag} {C : Callee} {S S1 S2 S' S0 Sa : Wd} {σ : L2.St} {sl : Wb.Sl} {X : Cx} {T : Addr → Prop}

/-- the addresses of a frame's own lists -/
def owned (sl : Wb.Sl) (σ : L2.St) : Addr → Prop := fun a => ∃ (i : Nat) (xs : List D), sl[i]? = some (some (FV.own xs)) ∧ σ[i]? = some (some (.ref a))
theorem SlRep.tok (h : SlRep K S0 S sl σ) : Tok (owned sl σ) S := by
  obtain ⟨oa, o, _⟩ := h.own
  refine ⟨fun a ⟨i, xs, e1, e2⟩ => ?_, fun a ⟨i, xs, e1, e2⟩ => ?_⟩
  · obtain ⟨e, vs, h1, _⟩ := o i xs e1
    rw [e] at e2; cases e2
    exact ⟨vs, h1⟩
  · obtain ⟨e, vs, h1, _, f, _⟩ := o i xs e1
    rw [e] at e2; cases e2
    exact f
theorem SlRep.fresh (h : SlRep K S0 S sl σ) : ∀ a, owned sl σ a → S0.H a = none := by
  obtain ⟨oa, o, _⟩ := h.own
  intro a ⟨i, xs, e1, e2⟩
  obtain ⟨e, vs, h1, _, _, _, z⟩ := o i xs e1
  rw [e] at e2; cases e2
  exact z
/-- the evaluator's promise of a statement -/
def WpF (K : PySem.W.Frag) (T : Addr → Prop) (m : MF) (S : Wd) (post : Fl → Wb.Sl → Wd → Prop) : Prop := match m S.ah with
  | .ok f sl' h' => ∀ S', ExtT T S S' → WOk K S' → S'.ah = h' → post f sl' S'
  | .exc _ _ h' => ∀ S', ExtT T S S' → WOk K S' → S'.ah = h' → False
  | .stuck => False
def EndF (K : PySem.W.Frag) (D : Ends) (S0 : Wd) (f : Fl) (σ' : L2.St) (S' : Wd) : Prop := match f with
  | .nx => D.nx σ' S'.H
  | .bk => D.bk σ' S'.H
  | .ct => D.ct σ' S'.H
  | .rt r => ∀ v, RVRep K S0 S0 S' r v → D.rt v S'.H
/-- what a statement is to reach -/
def PostF (K : PySem.W.Frag) (D : Ends) (S0 S : Wd) (T : Addr → Prop) : Fl → Wb.Sl → Wd → Prop := fun f sl' S' =>
  ∀ σ', SlRep K S0 S' sl' σ' → (∀ a, owned sl' σ' a → T a ∨ S.H a = none) → EndF K D S0 f σ' S'
def RF (K : PySem.W.Frag) (m : Wb.Sl → MF) : TS := fun D σ H => ∃ S0 S sl, S.H = H ∧ Fr K S0 S sl σ ∧ WpF K (owned sl σ) (m sl) S (PostF K D S0 S (owned sl σ))
abbrev RS (K : PySem.W.Frag) (C : Callee) (s : MS) : TS := RF K (execS C s)
abbrev RB (K : PySem.W.Frag) (C : Callee) (s : MSs) : TS := RF K (execB C s)
theorem PS.to {e : Stmt} {t t' : TS} (h : PS X e t) (w : ∀ D σ H, t' D σ H → t D σ H) : PS X e t' := ⟨fun pins s σ H Q I q => h.run pins s σ H Q I (w _ _ _ q)⟩
theorem PSs.to {e : List Stmt} {t t' : TS} (h : PSs X e t) (w : ∀ D σ H, t' D σ H → t D σ H) : PSs X e t' := ⟨fun pins s σ H Q I q => h.run pins s σ H Q I (w _ _ _ q)⟩

theorem WpF.andE {α : Type} {m : M α} {k : α → MF} {sl' : Wb.Sl} {p : Fl → Wb.Sl → Wd → Prop} (h : WpF K T (andE sl' m k) S p) : Wp K E0x m S fun a S1 => WpF K T (k a) S1 p := by
  unfold WpF Wb.andE at h
  unfold Wp
  cases q : m S.ah with
  | stuck => rw [q] at h; exact h
  | exc x h' => rw [q] at h; exact fun S' e o z => h S' e.any o z
  | ok a h' =>
    rw [q] at h
    intro S1 e1 o1 z1
    subst z1
    unfold WpF
    dsimp only at h ⊢
    cases q2 : k a S1.ah with
    | stuck => rw [q2] at h; exact h
    | exc x s2 h2 => rw [q2] at h; exact fun S2 e2 o2 z2 => h S2 (ExtT.trans o1 e1.any e2 fun _ z => .inl z) o2 z2
    | ok f s2 h2 => rw [q2] at h; exact fun S2 e2 o2 z2 => h S2 (ExtT.trans o1 e1.any e2 fun _ z => .inl z) o2 z2
theorem WpF.ret {f : Fl} {sl' : Wb.Sl} {p : Fl → Wb.Sl → Wd → Prop} (ok : WOk K S) (h : WpF K T (retF f sl') S p) : p f sl' S := h S (ExtT.refl S) ok rfl
theorem WpF.put {i : Nat} {v : FV} {sl' : Wb.Sl} {p : Fl → Wb.Sl → Wd → Prop} (h : WpF K T (put i v sl') S p) : i < sl'.length ∧ ∀ S', ExtT T S S' → WOk K S' → S'.ah = S.ah → p .nx (sl'.set i (some v)) S' := by
  unfold WpF Wb.put at h
  by_cases q : i < sl'.length
  · rw [if_pos q] at h; exact ⟨q, h⟩
  · rw [if_neg q] at h; exact h.elim
theorem Wp.assoc {α β γ : Type} {E : Xc → Wd → Prop} {m : M α} {k : α → M β} {l : β → M γ} {p : γ → Wd → Prop} (h : Wp K E (m >>= fun a => k a >>= l) S p) : Wp K E ((m >>= k) >>= l) S p := by
  rw [M.assoc]; exact h

/-! ### setting slots -/
theorem owned_val {i : Nat} {d : D} {v : V} {a : Addr} (h : owned (sl.set i (some (.val d))) (σ.set i (some v)) a) : owned sl σ a := by
  obtain ⟨j, xs, e1, e2⟩ := h
  rw [List.getElem?_set] at e1
  split at e1
  · split at e1 <;> cases e1
  · rename_i n
    rw [List.getElem?_set_ne n] at e2
    exact ⟨j, xs, e1, e2⟩
theorem owned_own {i : Nat} {ys : List D} {b a : Addr} (h : owned (sl.set i (some (.own ys))) (σ.set i (some (.ref b))) a) : owned sl σ a ∨ a = b := by
  obtain ⟨j, xs, e1, e2⟩ := h
  rw [List.getElem?_set] at e1 e2
  split at e1
  · rename_i q
    rw [if_pos q] at e2
    split at e2
    · cases e2; exact .inr rfl
    · cases e2
  · rename_i n
    rw [if_neg n] at e2
    exact .inl ⟨j, xs, e1, e2⟩
theorem fr_own {i : Nat} {a : Addr} {xs : List D} (f : Fr K S0 S sl σ) (r : OwnAt K S S a xs ∨ (OwnAt K S0 S a xs ∧ ∃ ys, sl[i]? = some (some (FV.own ys)) ∧ σ[i]? = some (some (.ref a)))) : True := trivial
/-- a list of a slot's own stands at its address alone -/
theorem SlRep.apart (h : SlRep K S0 S sl σ) {i j : Nat} {xs ys : List D} {a : Addr} (e1 : sl[i]? = some (some (FV.own xs))) (e2 : σ[i]? = some (some (.ref a))) (e3 : sl[j]? = some (some (FV.own ys))) (e4 : σ[j]? = some (some (.ref a))) : i = j := by
  obtain ⟨oa, o, n⟩ := h.own
  refine n i j xs ys e1 e3 ?_
  have q1 := (o i xs e1).1
  have q2 := (o j ys e3).1
  rw [e2] at q1; rw [e4] at q2
  have h1 : a = oa i := by injection q1 with q1; injection q1 with q1; injection q1 with q1
  have h2 : a = oa j := by injection q2 with q2; injection q2 with q2; injection q2 with q2
  exact h1.symm.trans h2
theorem SlRep.at (h : SlRep K S0 S sl σ) {i : Nat} {xs : List D} (e : sl[i]? = some (some (FV.own xs))) : ∃ a, σ[i]? = some (some (.ref a)) ∧ OwnAt K S0 S a xs := by
  obtain ⟨oa, o, _⟩ := h.own
  exact ⟨oa i, o i xs e⟩
/-- the rest of a frame while the list at slot i is changed (or frozen) -/
theorem SlRep.but (h : SlRep K S0 S sl σ) (ok : WOk K S) {i : Nat} {xs : List D} {a : Addr} (e1 : sl[i]? = some (some (FV.own xs))) (e2 : σ[i]? = some (some (.ref a))) (e : ExtT (fun b => b = a) S S') : SlRep K S0 S' (sl.set i none) (σ.set i none) := by
  obtain ⟨oa, o, n⟩ := h.own
  obtain ⟨q, ow⟩ := o i xs e1
  rw [e2] at q
  have qa : a = oa i := by injection q with q; injection q with q; injection q with q
  subst qa
  obtain ⟨vs, h1, r, f, m, z⟩ := ow
  have tk : Tok (fun b => b = oa i) S := ⟨fun b z => by rw [z]; exact ⟨vs, h1⟩, fun b z => by rw [z]; exact f⟩
  have inv : ∀ (j : Nat) (f : FV), (sl.set i none)[j]? = some (some f) → sl[j]? = some (some f) ∧ i ≠ j := fun j f e => by
    rw [List.getElem?_set] at e
    split at e
    · split at e <;> cases e
    · exact ⟨e, by assumption⟩
  refine ⟨by simp [h.len], ExtT.trans ok h.ext e fun c hc => .inr (by rw [hc]; exact z), fun j d e3 => ?_, oa, fun j ys e3 => ?_, fun j k ys zs e3 e4 => n j k ys zs (inv _ _ e3).1 (inv _ _ e4).1⟩
  · obtain ⟨e3, nn⟩ := inv _ _ e3
    obtain ⟨v, q1, q2⟩ := h.val j d e3
    exact ⟨v, by rw [List.getElem?_set_ne nn]; exact q1, Rep.monoT ok e tk _ _ q2⟩
  · obtain ⟨e3, nn⟩ := inv _ _ e3
    obtain ⟨q1, q2⟩ := o j ys e3
    exact ⟨by rw [List.getElem?_set_ne nn]; exact q1, q2.monoT ok e tk fun z => nn (n i j xs ys e1 e3 z.symm)⟩
theorem set_none {α : Type} {l : List (Option α)} {i : Nat} {v : Option α} : (l.set i none).set i v = l.set i v := by rw [List.set_set]
theorem set_same {α : Type} {l : List α} {i : Nat} {x : α} (h : l[i]? = some x) : l.set i x = l := by
  apply List.ext_getElem?
  intro j
  rw [List.getElem?_set]
  by_cases q : i = j
  · subst q
    rw [if_pos rfl, if_pos (List.getElem?_eq_some_iff.mp h).1, h]
  · rw [if_neg q]
/-- the slot's list is changed -/
theorem SlRep.changed (h : SlRep K S0 S sl σ) (ok : WOk K S) {i : Nat} {xs ys : List D} {ws : List V} {a : Addr} (e1 : sl[i]? = some (some (FV.own xs))) (e2 : σ[i]? = some (some (.ref a))) (r : Reps K S ys ws) :
    ∃ S', S'.H = upd S.H a (.lst ws) ∧ S'.ah = S.ah ∧ ExtT (owned sl σ) S S' ∧ WOk K S' ∧ SlRep K S0 S' (sl.set i (some (.own ys))) σ := by
  obtain ⟨a', q, ow⟩ := h.at e1
  rw [e2] at q
  have qa : a = a' := by injection q with q; injection q with q; injection q with q
  subst qa
  obtain ⟨e, o, ow2⟩ := upd_own ok ow r
  refine ⟨{ S with H := upd S.H a (.lst ws) }, rfl, rfl, ⟨e.len, e.m, fun c u h1 n t => e.keep c u h1 n fun z => t ⟨i, xs, e1, by rw [z]; exact e2⟩, e.dom, e.frz, fun c hc => ?_⟩, o, ?_⟩
  · rcases e.new c hc with z | z | z | z
    · exact .inl z
    · exact .inr (.inl z)
    · exact .inr (.inr (.inl z))
    · exact .inr (.inr (.inr ⟨i, xs, e1, by rw [z]; exact e2⟩))
  · have b := h.but ok e1 e2 e
    have hi : i < σ.length := (List.getElem?_eq_some_iff.mp e2).1
    have s := b.setOwn (i := i) ow2 fun j ys nj e3 => by
      rw [List.getElem?_set_ne (Ne.symm nj)] at e3 ⊢
      intro e4
      exact nj (h.apart e3 e4 e1 e2)
    rw [set_none, set_none] at s
    have e5 : σ.set i (some (.ref a)) = σ := set_same e2
    rw [e5] at s
    exact s

theorem PostF.end_ {D : Ends} {f : Fl} {sl' : Wb.Sl} {σ' : L2.St} (h : PostF K D S0 S T f sl' S') (s : SlRep K S0 S' sl' σ') (o : ∀ a, owned sl' σ' a → T a ∨ S.H a = none) : EndF K D S0 f σ' S' := h σ' s o

/-! ### one rule a statement -/
theorem set_rd {i : Nat} {e : ME} {D : Ends} {H : Hp} (h : RS K C (.set i e) D σ H) : tAsg (RD K C e) (gName i) D σ H := by
  obtain ⟨S0, S, sl, rfl, f, h⟩ := h
  unfold execS at h
  refine RD.mk f h.andE fun d S1 v e1 o1 h1 r1 => ?_
  obtain ⟨hi, p⟩ := h1.put
  exact (p S1 (ExtT.refl S1) o1 rfl).end_ ((f.sr.mono f.ok e1).set r1) fun a ha => .inl (owned_val ha)
theorem own_rd {i : Nat} {e : ME} {D : Ends} {H : Hp} (h : RS K C (.own i e) D σ H) : tAsg (RE K C e) (gName i) D σ H := by
  obtain ⟨S0, S, sl, rfl, f, h⟩ := h
  unfold execS at h
  refine RE.mk f h.andE.bind fun r S1 v e1 o1 h1 r1 => ?_
  cases r with
  | val d => exact h1.elim
  | brw xs => exact h1.elim
  | own xs =>
    have h1 := Wp.pure o1 h1
    obtain ⟨hi, p⟩ := h1.put
    obtain ⟨a, rfl, ow⟩ := r1
    have s1 := f.sr.mono f.ok e1
    refine (p S1 (ExtT.refl S1) o1 rfl).end_ (s1.setOwn (ow.back f.sr.ext) fun j ys nj e3 e4 => ?_) fun b hb => ?_
    · obtain ⟨_, _, _, _, _, z⟩ := ow
      obtain ⟨b, e5, vs, h5, _⟩ := f.sr.at e3
      rw [e4] at e5
      have qa : a = b := by injection e5 with q; injection q with q; injection q with q
      rw [← qa, z] at h5; cases h5
    · rcases owned_own hb with z | z
      · exact .inl z
      · obtain ⟨_, _, _, _, _, q⟩ := ow
        exact .inr (by rw [z]; exact q)
theorem ret_rd {e : ME} {D : Ends} {H : Hp} (h : RS K C (.ret e) D σ H) : tRet (RE K C e) D σ H := by
  obtain ⟨S0, S, sl, rfl, f, h⟩ := h
  unfold execS at h
  refine RE.mk f h.andE fun r S1 v e1 o1 h1 r1 => ?_
  have h1 := WpF.ret o1 h1
  have q := h1.end_ (f.sr.mono f.ok e1) fun a ha => .inl ha
  refine q v ?_
  cases r with
  | val d => exact r1
  | brw xs => exact r1
  | own xs => exact RVRep.back (r := .own xs) f.sr.ext r1
theorem retN_rd {D : Ends} {H : Hp} (h : RS K C .retN D σ H) : tRetN D σ H := by
  obtain ⟨S0, S, sl, rfl, f, h⟩ := h
  unfold execS at h
  have h1 := WpF.ret f.ok h
  exact h1.end_ f.sr (fun a ha => .inl ha) _ (by unfold RVRep Rep; rfl)
theorem expr_rd {e : ME} {D : Ends} {H : Hp} (h : RS K C (.expr e) D σ H) : tDrop (RE K C e) D σ H := by
  obtain ⟨S0, S, sl, rfl, f, h⟩ := h
  unfold execS at h
  refine RE.mk f h.andE fun r S1 v e1 o1 h1 r1 => ?_
  exact (WpF.ret o1 h1).end_ (f.sr.mono f.ok e1) fun a ha => .inl ha
theorem pass_rd {D : Ends} {H : Hp} (h : RS K C .pass D σ H) : tNext D σ H := by
  obtain ⟨S0, S, sl, rfl, f, h⟩ := h
  unfold execS at h
  exact (WpF.ret f.ok h).end_ f.sr fun a ha => .inl ha
theorem brk_rd {D : Ends} {H : Hp} (h : RS K C .brk D σ H) : tBreak D σ H := by
  obtain ⟨S0, S, sl, rfl, f, h⟩ := h
  unfold execS at h
  exact (WpF.ret f.ok h).end_ f.sr fun a ha => .inl ha
theorem cnt_rd {D : Ends} {H : Hp} (h : RS K C .cnt D σ H) : tCont D σ H := by
  obtain ⟨S0, S, sl, rfl, f, h⟩ := h
  unfold execS at h
  exact (WpF.ret f.ok h).end_ f.sr fun a ha => .inl ha
theorem nil_rd {D : Ends} {H : Hp} (h : RB K C .nil D σ H) : tNext D σ H := by
  obtain ⟨S0, S, sl, rfl, f, h⟩ := h
  unfold execB at h
  exact (WpF.ret f.ok h).end_ f.sr fun a ha => .inl ha
/-- an inner run's promise, seen from where the outer one began -/
theorem WpF.seq {m : MF} {k : Wb.Sl → MF} {D : Ends} (ok : WOk K S) (sr : SlRep K S0 S sl σ) (h : WpF K (owned sl σ) (seqF m k) S (PostF K D S0 S (owned sl σ))) :
    WpF K (owned sl σ) m S (PostF K { D with nx := RF K k D } S0 S (owned sl σ)) := by
  unfold WpF Wb.seqF at h
  unfold WpF
  cases q : m S.ah with
  | stuck => rw [q] at h; exact h
  | exc x s' h' => rw [q] at h; exact h
  | ok f s1 h1 =>
    rw [q] at h
    intro S1 e1 o1 z1 σ1 sr1 sub1
    have same : ∀ f : Fl, f ≠ .nx → PostF K D S0 S (owned sl σ) f s1 S1 → EndF K { D with nx := RF K k D } S0 f σ1 S1 := fun f hf p => by
      have p := p σ1 sr1 sub1
      cases f with
      | nx => exact absurd rfl hf
      | _ => exact p
    cases f with
    | bk => exact same _ (by intro z; cases z) (h S1 e1 o1 z1)
    | ct => exact same _ (by intro z; cases z) (h S1 e1 o1 z1)
    | rt r => exact same _ (by intro z; cases z) (h S1 e1 o1 z1)
    | nx =>
      subst z1
      refine ⟨S0, S1, s1, rfl, ⟨o1, sr1⟩, ?_⟩
      unfold WpF
      dsimp only at h
      have tr : ∀ {S2 : Wd}, ExtT (owned s1 σ1) S1 S2 → ExtT (owned sl σ) S S2 := fun e2 => ExtT.trans o1 e1 e2 sub1
      cases q2 : k s1 S1.ah with
      | stuck => rw [q2] at h; exact h
      | exc x s' h' => rw [q2] at h; exact fun S2 e2 o2 z2 => h S2 (tr e2) o2 z2
      | ok f2 s2 h2 =>
        rw [q2] at h
        intro S2 e2 o2 z2 σ2 sr2 sub2
        refine h S2 (tr e2) o2 z2 σ2 sr2 fun a ha => ?_
        rcases sub2 a ha with z | z
        · exact sub1 a z
        · exact .inr (e1.dom a z)
theorem cons_rd {s : MS} {r : MSs} {D : Ends} {H : Hp} (h : RB K C (.cons s r) D σ H) : tSeq (RS K C s) (RB K C r) D σ H := by
  obtain ⟨S0, S, sl, rfl, f, h⟩ := h
  unfold execB at h
  exact ⟨S0, S, sl, rfl, f, h.seq f.ok f.sr⟩
theorem Wp.mono2 {α : Type} {m : M α} {p q : α → Wd → Prop} (h : Wp K E0x m S p) (hq : ∀ a S', Ext S S' → WOk K S' → p a S' → q a S') : Wp K E0x m S q := h.mono hq
/-- a part that is run behind an expression -/
theorem WpF.from_ {m : MF} {D : Ends} (f : Fr K S0 S sl σ) (o1 : WOk K S1) (e1 : Ext S S1) (h : WpF K (owned sl σ) m S1 (PostF K D S0 S (owned sl σ))) : WpF K (owned sl σ) m S1 (PostF K D S0 S1 (owned sl σ)) := by
  unfold WpF at h ⊢
  cases q : m S1.ah with
  | stuck => rw [q] at h; exact h
  | exc x s' h' => rw [q] at h; exact h
  | ok f s1 h1 =>
    rw [q] at h
    exact fun S2 e2 o2 z2 σ2 sr2 sub2 => h S2 e2 o2 z2 σ2 sr2 fun a ha => (sub2 a ha).imp id fun z => e1.dom a z
theorem iff_rd {c : ME} {a b : MSs} {D : Ends} {H : Hp} (h : RS K C (.iff c a b) D σ H) : tIfS (RT K C c) (RB K C a) (RB K C b) D σ H := by
  obtain ⟨S0, S, sl, rfl, f, h⟩ := h
  unfold execS at h
  refine RT.mk f h.andE fun k S1 e1 o1 h1 => ?_
  cases k with
  | true =>
    refine iteT ?_
    exact ⟨S0, S1, sl, rfl, f.mono o1 e1, WpF.from_ f o1 e1 h1⟩
  | false =>
    refine iteF ?_
    exact ⟨S0, S1, sl, rfl, f.mono o1 e1, WpF.from_ f o1 e1 h1⟩

/-! ### the abstract heap's lists -/
theorem new_heap (o1 : WOk K S1) (e1 : Ext S S1) {a : Addr} {xs : List D} (ow : OwnAt K S S1 a xs) :
    ∃ S', S'.H = S1.H ∧ S'.ah = S1.ah ++ [.lst xs] ∧ Ext S S' ∧ Ext S S1 ∧ WOk K S' ∧ Rep K S' (.ref S1.ah.length) (.ref a) := by
  obtain ⟨vs, h5, rr, nf, nm, z⟩ := ow
  let S' : Wd := { S1 with ah := S1.ah ++ [.lst xs], m := fun t => if t = S1.ah.length then a else S1.m t }
  have hm : ∀ t, t < S1.ah.length → S'.m t = S1.m t := fun t ht => by
    show (if t = S1.ah.length then a else S1.m t) = _
    rw [if_neg (by omega)]
  have hl : S'.ah.length = S1.ah.length + 1 := by show (S1.ah ++ [AO.lst xs]).length = _; simp
  have mu : ∀ b, S'.mut b → S1.mut b ∨ b = a := fun b ⟨t, ht, e⟩ => by
    rw [hl] at ht
    by_cases q : t < S1.ah.length
    · rw [hm t q] at e; exact .inl ⟨t, q, e⟩
    · have q2 : t = S1.ah.length := by omega
      rw [q2] at e
      right
      rw [e]
      show (if S1.ah.length = S1.ah.length then a else S1.m S1.ah.length) = a
      rw [if_pos rfl]
  have e2 : ExtT (fun b => b = a) S1 S' := ⟨by rw [hl]; omega, hm, fun _ _ h _ _ => h, fun _ h => h, fun _ h => h, fun b h => by
    rcases h with h | h
    · exact .inl h
    · rcases mu b h with h | h
      · exact .inr (.inl h)
      · exact .inr (.inr (.inr h))⟩
  have tk : Tok (fun b => b = a) S1 := ⟨fun b z => by rw [z]; exact ⟨vs, h5⟩, fun b z => by rw [z]; exact nf⟩
  have last : S'.m S1.ah.length = a := by
    show (if S1.ah.length = S1.ah.length then a else S1.m S1.ah.length) = a
    rw [if_pos rfl]
  refine ⟨S', rfl, rfl, ExtT.after o1 e1 e2 z, e1, ⟨fun t o h => ?_, fun t u ht hu h => ?_, fun b hb => ?_⟩, ?_⟩
  · have ht : t < S'.ah.length := (List.getElem?_eq_some_iff.mp h).1
    rw [hl] at ht
    by_cases q : t < S1.ah.length
    · have h' : S1.ah[t]? = some o := by
        have h2 : (S1.ah ++ [AO.lst xs])[t]? = some o := h
        rw [List.getElem?_append_left q] at h2
        exact h2
      have r := o1.obj t o h'
      cases o with
      | ins c fs => exact r.elim
      | lst ys =>
        obtain ⟨us, q1, q2⟩ := r
        exact ⟨us, by rw [hm t q]; exact q1, Reps.monoT o1 e2 tk _ _ q2⟩
    · have q2 : t = S1.ah.length := by omega
      subst q2
      have h2 : (S1.ah ++ [AO.lst xs])[S1.ah.length]? = some o := h
      rw [List.getElem?_append_right (Nat.le_refl _), Nat.sub_self] at h2
      cases h2
      exact ⟨vs, by rw [last]; exact h5, Reps.monoT o1 e2 tk _ _ rr⟩
  · rw [hl] at ht hu
    by_cases q1 : t < S1.ah.length
    · by_cases q2 : u < S1.ah.length
      · rw [hm t q1, hm u q2] at h; exact o1.inj t u q1 q2 h
      · have q3 : u = S1.ah.length := by omega
        rw [q3, last, hm t q1] at h
        exact absurd ⟨t, q1, h.symm⟩ nm
    · have q3 : t = S1.ah.length := by omega
      by_cases q2 : u < S1.ah.length
      · rw [q3, last, hm u q2] at h
        exact absurd ⟨u, q2, h⟩ nm
      · omega
  · obtain ⟨h1, h2⟩ := o1.fz b hb
    refine ⟨h1, fun h3 => ?_⟩
    rcases mu b h3 with h3 | h3
    · exact h2 h3
    · rw [h3] at hb; exact nf hb
  · unfold Rep
    exact ⟨by rw [hl]; omega, by rw [last]⟩
theorem heap_rd {i : Nat} {e : ME} {D : Ends} {H : Hp} (h : RS K C (.heap i e) D σ H) : tAsg (RE K C e) (gName i) D σ H := by
  obtain ⟨S0, S, sl, rfl, f, h⟩ := h
  unfold execS at h
  refine RE.mk f (h.andE.at_.bind f.ok (Ext.refl S)) fun r S1 v e1 o1 h1 r1 => ?_
  cases r with
  | val d => exact h1.elim
  | brw xs => exact h1.elim
  | own xs =>
    obtain ⟨a, rfl, ow⟩ := r1
    obtain ⟨S2, eH, eA, e2, _, o2, r2⟩ := new_heap o1 e1 ow
    have h2 := h1 S2 e2 o2 eA
    obtain ⟨hi, p⟩ := WpF.put h2
    rw [← eH]
    exact (p S2 (ExtT.refl S2) o2 rfl).end_ ((f.sr.mono f.ok e2).set r2) fun a ha => .inl (owned_val ha)
theorem set_heap (o1 : WOk K S1) {t : Nat} {xs ys : List D} {ws : List V} (h : S1.ah[t]? = some (.lst xs)) (r : Reps K S1 ys ws) :
    ∃ S', S'.H = upd S1.H (S1.m t) (.lst ws) ∧ S'.ah = S1.ah.set t (.lst ys) ∧ Ext S1 S' ∧ WOk K S' := by
  have ht : t < S1.ah.length := (List.getElem?_eq_some_iff.mp h).1
  obtain ⟨vs, hv, _⟩ := o1.obj t _ h
  let S' : Wd := { S1 with H := upd S1.H (S1.m t) (.lst ws), ah := S1.ah.set t (.lst ys) }
  have hl : S'.ah.length = S1.ah.length := by show (S1.ah.set t (AO.lst ys)).length = _; simp
  have mu : ∀ b, S'.mut b → S1.mut b := fun b ⟨u, hu, e⟩ => ⟨u, by rw [hl] at hu; exact hu, e⟩
  have e2 : Ext S1 S' := by
    refine ⟨by rw [hl]; omega, fun _ _ => rfl, fun b u hb n _ => ?_, fun b hb => ?_, fun _ h => h, fun b h => h.elim .inl fun z => .inr (.inl (mu b z))⟩
    · show upd S1.H (S1.m t) _ b = _
      rw [upd_ne fun z => n ⟨t, ht, z⟩]; exact hb
    · have hb' : upd S1.H (S1.m t) (.lst ws) b = none := hb
      by_cases q : b = S1.m t
      · rw [q, upd_same] at hb'; cases hb'
      · rw [upd_ne q] at hb'; exact hb'
  refine ⟨S', rfl, rfl, e2, ⟨fun u o h2 => ?_, fun u w hu hw => o1.inj u w (by rw [hl] at hu; exact hu) (by rw [hl] at hw; exact hw), fun b hb => ?_⟩⟩
  · have h3 : (S1.ah.set t (AO.lst ys))[u]? = some o := h2
    rw [List.getElem?_set] at h3
    split at h3
    · rename_i q
      subst q
      cases h3
      exact ⟨ws, upd_same, Reps.mono o1 e2 _ _ r⟩
    · rename_i q
      have q3 := o1.obj u o h3
      have hu : u < S1.ah.length := (List.getElem?_eq_some_iff.mp h3).1
      cases o with
      | ins c fs => exact q3.elim
      | lst zs =>
        obtain ⟨us, q1, q2⟩ := q3
        refine ⟨us, ?_, Reps.mono o1 e2 _ _ q2⟩
        show upd S1.H (S1.m t) _ (S1.m u) = _
        rw [upd_ne fun z => q (o1.inj t u ht hu z.symm)]; exact q1
  · obtain ⟨⟨us, h2⟩, n⟩ := o1.fz b hb
    refine ⟨⟨us, ?_⟩, fun h3 => n (mu b h3)⟩
    show upd S1.H (S1.m t) _ b = _
    rw [upd_ne fun z => n ⟨t, ht, z⟩]; exact h2
theorem heapL_rd {r : RV} {v : V} {β : Type} {k : Nat × List D → M β} {p : β → Wd → Prop} (o : WOk K S') (rv : RVRep K S0 S S' r v) (h : Wp K E0x (heapL r >>= k) S' p) :
    ∃ t xs, v = .ref (S'.m t) ∧ S'.ah[t]? = some (.lst xs) ∧ Wp K E0x (k (t, xs)) S' p := by
  unfold Wp at h
  rw [bind_def] at h
  unfold heapL at h
  cases r with
  | own xs => exact h.elim
  | brw xs => exact h.elim
  | val d =>
    cases d with
    | ref t =>
      unfold RVRep Rep at rv
      obtain ⟨ht, rfl⟩ := rv
      dsimp only at h
      cases q : S'.ah[t]? with
      | none => rw [q] at h; exact h.elim
      | some ob =>
        cases ob with
        | ins c fs => rw [q] at h; exact h.elim
        | lst xs => rw [q] at h; exact ⟨t, xs, rfl, q, h⟩
    | _ => exact h.elim

/-! ### methods of lists -/
def relM : LMo → V → List V → Hp → VK → Prop
  | .append => rAppend
  | .insert0 => fun x vs H Q => ∃ (l : Addr) (xs : List V) (y : V), x = .ref l ∧ vs = [.int 0, y] ∧ H l = some (.lst xs) ∧ xs.length < sizeLine ∧ Q .non (upd H l (.lst (y :: xs)))
  | .pop => rPop
  | .clear => fun x vs H Q => ∃ l xs, x = .ref l ∧ vs = [] ∧ H l = some (.lst xs) ∧ Q .non (upd H l (.lst []))
def pre0 : LMo → List V
  | .insert0 => [V.int 0]
  | _ => []
theorem meth_rd {m : LMo} {xs ds : List D} {ws vs : List V} {a : Addr} {Q : VK} (ok : WOk K S) (hx : S.H a = some (.lst ws)) (rx : Reps K S xs ws) (rd : Reps K S ds vs) {β : Type} {k : RV × List D → M β} {p : β → Wd → Prop}
    (h : Wp K E0x (methL m xs ds >>= k) S p) (hQ : ∀ (r : RV) (ys : List D) (v : V) (us : List V), (∃ d, r = .val d ∧ Rep K S d v) → Reps K S ys us → Wp K E0x (k (r, ys)) S p → Q v (upd S.H a (.lst us))) :
    relM m (.ref a) (pre0 m ++ vs) S.H Q := by
  cases m with
  | append =>
    match ds, h with
    | [d], h =>
      have h : Wp K E0x ((guardM (xs.length < sizeLine) >>= fun _ => pure (RV.val .non, xs ++ [d])) >>= k) S p := h
      have h := h.unassoc
      obtain ⟨c, h⟩ := Wp.guard ok h
      unfold Reps at rd
      obtain ⟨v, vs', rfl, r1, r2⟩ := rd
      unfold Reps at r2
      subst r2
      exact ⟨a, ws, v, rfl, rfl, hx, by rw [← rx.length]; exact c, hQ (.val .non) _ .non _ ⟨_, rfl, by unfold Rep; rfl⟩ (rx.append (Reps.cons r1 Reps.nil)) h⟩
    | [], h => exact h.elim
    | _ :: _ :: _, h => exact h.elim
  | insert0 =>
    match ds, h with
    | [d], h =>
      have h : Wp K E0x ((guardM (xs.length < sizeLine) >>= fun _ => pure (RV.val .non, d :: xs)) >>= k) S p := h
      have h := h.unassoc
      obtain ⟨c, h⟩ := Wp.guard ok h
      unfold Reps at rd
      obtain ⟨v, vs', rfl, r1, r2⟩ := rd
      unfold Reps at r2
      subst r2
      exact ⟨a, ws, v, rfl, rfl, hx, by rw [← rx.length]; exact c, hQ (.val .non) _ .non _ ⟨_, rfl, by unfold Rep; rfl⟩ (Reps.cons r1 rx) h⟩
    | [], h => exact h.elim
    | _ :: _ :: _, h => exact h.elim
  | pop =>
    match ds, h with
    | [], h =>
      unfold Reps at rd
      subst rd
      have h : Wp K E0x ((match xs.getLast? with | some v => pure (RV.val v, xs.dropLast) | none => stuck) >>= k) S p := h
      cases q : xs.getLast? with
      | none => rw [q] at h; exact h.elim
      | some d =>
        rw [q] at h
        rw [List.getLast?_eq_getElem?] at q
        obtain ⟨v, hv, rv⟩ := rx.get q
        rw [rx.length] at hv
        refine ⟨a, ws, v, rfl, rfl, hx, hv, ?_⟩
        refine hQ (.val d) _ v _ ⟨_, rfl, rv⟩ ?_ h
        rw [List.dropLast_eq_take, List.dropLast_eq_take, rx.length]
        exact rx.take _
    | _ :: _, h => exact h.elim
  | clear =>
    match ds, h with
    | [], h =>
      unfold Reps at rd
      subst rd
      exact ⟨a, ws, rfl, rfl, hx, hQ (.val .non) [] .non [] ⟨_, rfl, by unfold Rep; rfl⟩ Reps.nil h⟩
    | _ :: _, h => exact h.elim
def tArgs0 (m : LMo) (t : TA) : TA := fun σ H Q => t σ H fun vs H1 => Q (pre0 m ++ vs) H1
theorem slotOwn_rd {i : Nat} {β : Type} {k : List D → M β} {p : β → Wd → Prop} (f : Fr K S0 S sl σ) (h : Wp K E0x (slotOwn i sl >>= k) S p) :
    ∃ xs a vs, sl[i]? = some (some (FV.own xs)) ∧ σ[i]? = some (some (.ref a)) ∧ S.H a = some (.lst vs) ∧ Reps K S xs vs ∧ Wp K E0x (k xs) S p := by
  unfold slotOwn at h
  split at h
  · rename_i xs q
    obtain ⟨a, e, vs, h1, r, _⟩ := f.sr.at q
    exact ⟨xs, a, vs, q, e, h1, r, h⟩
  · exact h.elim
theorem methS_rd {i : Nat} {m : LMo} {es : MEs} {D : Ends} {H : Hp} (h : RS K C (.meth i m es) D σ H) :
    ∃ a, σ[i]? = some (some (.ref a)) ∧ (∃ xs, SqL K H a xs) ∧ tArgs0 m (RDs K C es) σ H fun vs H1 => relM m (.ref a) vs H1 fun _ H2 => D.nx σ H2 := by
  obtain ⟨S0, S, sl, rfl, f, h⟩ := h
  unfold execS at h
  obtain ⟨xs, a, ws0, q, q2, h0, _, h⟩ := slotOwn_rd f h.andE
  refine ⟨a, q2, ⟨ws0, .of h0⟩, ?_⟩
  refine RDs.mk f h.bind fun ds S1 vs e1 o1 h1 r1 => ?_
  have f1 := f.mono o1 e1
  obtain ⟨b, e3, ws, h2, r2, _⟩ := f1.sr.at q
  rw [q2] at e3
  have qa : a = b := by injection e3 with z; injection z with z; injection z with z
  subst qa
  refine meth_rd (k := fun z => pure z) o1 h2 r2 r1 (by
    have e : (methL m xs ds >>= fun z => pure z) = methL m xs ds := by funext h; simp only [bind_def]; cases methL m xs ds h <;> rfl
    rw [e]; exact h1) fun r zs v us _ r3 h3 => ?_
  have h3 := Wp.pure o1 h3
  obtain ⟨hi, p⟩ := WpF.put h3
  obtain ⟨S2, eH, eA, e4, o4, s4⟩ := f1.sr.changed o1 q q2 r3
  rw [← eH]
  refine (p S2 e4 o4 eA).end_ s4 fun c hc => ?_
  rw [show σ = σ.set i (some (.ref a)) from (set_same q2).symm] at hc
  rcases owned_own hc with z | z
  · exact .inl z
  · exact .inl ⟨i, xs, q, by rw [z]; exact q2⟩
theorem hmeth_rd {o : ME} {m : LMo} {es : MEs} {D : Ends} {H : Hp} (h : RS K C (.hmeth o m es) D σ H) :
    RE K C o σ H fun x H1 => ∃ a, x = .ref a ∧ (∃ xs, SqL K H1 a xs) ∧ tArgs0 m (RDs K C es) σ H1 fun vs H2 => relM m (.ref a) vs H2 fun _ H3 => D.nx σ H3 := by
  obtain ⟨S0, S, sl, rfl, f, h⟩ := h
  unfold execS at h
  refine RE.mk f h.andE.bind fun r S1 v e1 o1 h1 r1 => ?_
  obtain ⟨t, xs, rfl, ht, h1⟩ := heapL_rd o1 r1 h1
  obtain ⟨ws, hw, _⟩ := o1.obj t _ ht
  refine ⟨_, rfl, ⟨ws, .of hw⟩, ?_⟩
  refine RDs.mk (f.mono o1 e1) h1.bind fun ds S2 vs e2 o2 h2 r2 => ?_
  have e02 := Ext.trans o1 e1 e2
  obtain ⟨t2, ys, et, ht2, h2⟩ := heapL_rd o2 (r1.mono o1 e2) h2
  obtain ⟨ws2, hw2, rw2⟩ := o2.obj t2 _ ht2
  have qa : S1.m t = S2.m t2 := by injection et
  rw [qa]
  refine meth_rd o2 hw2 rw2 r2 h2 fun r zs v us _ r3 h3 => ?_
  obtain ⟨S3, eH, eA, e3, o3⟩ := set_heap o2 ht2 r3
  have e03 := Ext.trans o2 e02 e3
  have h4 : ∀ S', Ext S2 S' → WOk K S' → S'.ah = S2.ah.set t2 (.lst zs) → _ := h3
  have h5 := WpF.ret o3 (h4 S3 e3 o3 eA)
  rw [← eH]
  exact h5.end_ (f.sr.mono f.ok e03) fun a ha => .inl ha
theorem setIx_rd {i : Nat} {k e : ME} {D : Ends} {H : Hp} (h : RS K C (.setIx i k e) D σ H) : RD K C e σ H fun v H1 => ∃ a, σ[i]? = some (some (.ref a)) ∧ RE K C k σ H1 fun j H2 => rSetL (.ref a) j v H2 fun H3 => D.nx σ H3 := by
  obtain ⟨S0, S, sl, rfl, f, h⟩ := h
  unfold execS at h
  refine RD.mk f h.andE.bind fun d S1 v e1 o1 h1 r1 => ?_
  have f1 := f.mono o1 e1
  obtain ⟨xs, a, ws0, q, q2, h0, _, h1⟩ := slotOwn_rd f1 h1
  refine ⟨a, q2, ?_⟩
  refine RE.mk f1 h1.bind fun rk S2 j e2 o2 h2 r2 => ?_
  obtain ⟨n, e1', e2', h2⟩ := int_of o2 r2 h2
  subst e1'
  have f2 := f1.mono o2 e2
  obtain ⟨b, e3, ws, h3, r3, _⟩ := f2.sr.at q
  rw [q2] at e3
  have qa : a = b := by injection e3 with z; injection z with z; injection z with z
  subst qa
  have h2 := h2
  unfold Wp setAt at h2
  cases q4 : L2.ixN xs.length n with
  | none => rw [q4] at h2; exact h2.elim
  | some j =>
    rw [q4] at h2
    have h5 : ∀ S', Ext S2 S' → WOk K S' → S'.ah = S2.ah → _ := h2
    have h6 := h5 S2 (Ext.refl S2) o2 rfl
    obtain ⟨hi, p⟩ := WpF.put h6
    obtain ⟨S3, eH, eA, e4, o4, s4⟩ := f2.sr.changed o2 q q2 (Reps.set (Rep.mono o1 e2 _ _ r1) j r3)
    refine ⟨a, ws, n, j, rfl, rfl, h3, by rw [← r3.length]; exact q4, ?_⟩
    rw [← eH]
    refine (p S3 e4 o4 eA).end_ s4 fun c hc => ?_
    rw [show σ = σ.set i (some (.ref a)) from (set_same q2).symm] at hc
    rcases owned_own hc with z | z
    · exact .inl z
    · exact .inl ⟨i, xs, q, by rw [z]; exact q2⟩
theorem setHx_rd {o k e : ME} {D : Ends} {H : Hp} (h : RS K C (.setHx o k e) D σ H) : RD K C e σ H fun v H1 => RE K C o σ H1 fun x H2 => RE K C k σ H2 fun j H3 => rSetL x j v H3 fun H4 => D.nx σ H4 := by
  obtain ⟨S0, S, sl, rfl, f, h⟩ := h
  unfold execS at h
  refine RD.mk f h.andE.bind fun d S1 v e1 o1 h1 r1 => ?_
  have f1 := f.mono o1 e1
  refine RE.mk f1 h1.bind fun ro S2 x e2 o2 h2 r2 => ?_
  have f2 := f1.mono o2 e2
  refine RE.mk f2 h2.bind fun rk S3 j e3 o3 h3 r3 => ?_
  have f3 := f2.mono o3 e3
  obtain ⟨n, e1', e2', h3⟩ := int_of o3 r3 h3
  subst e1'
  obtain ⟨t, xs, rfl, ht, h3⟩ := heapL_rd o3 (r2.mono o2 e3) h3
  obtain ⟨ws, hw, rw2⟩ := o3.obj t _ ht
  obtain ⟨zs, q4, h3⟩ := Wp.opt h3
  unfold setAt at q4
  cases q5 : L2.ixN xs.length n with
  | none => rw [q5] at q4; cases q4
  | some j =>
    rw [q5] at q4
    have ez : zs = xs.set j d := by injection q4 with q4; exact q4.symm
    subst ez
    obtain ⟨S4, eH, eA, e4, o4⟩ := set_heap o3 ht (Reps.set (Rep.mono o2 e3 _ _ (Rep.mono o1 e2 _ _ r1)) j rw2)
    have h4 : ∀ S', Ext S3 S' → WOk K S' → S'.ah = S3.ah.set t (.lst (xs.set j d)) → _ := h3
    have h5 := WpF.ret o4 (h4 S4 e4 o4 eA)
    refine ⟨_, ws, n, j, rfl, rfl, hw, by rw [← rw2.length]; exact q5, ?_⟩
    rw [← eH]
    exact h5.end_ (f3.sr.mono o3 e4) fun a ha => .inl ha

theorem assign_own {tg : List Nat} {d : D} {sl sl2 : Wb.Sl} (h : assign tg d sl = some sl2) {i : Nat} {xs : List D} (e : sl2[i]? = some (some (FV.own xs))) : sl[i]? = some (some (FV.own xs)) ∧ i ∉ tg := by
  have one : ∀ {l : Wb.Sl} {j : Nat} {d : D}, (l.set j (some (FV.val d)))[i]? = some (some (FV.own xs)) → l[i]? = some (some (FV.own xs)) ∧ i ≠ j := fun {l j d} e => by
    rw [List.getElem?_set] at e
    split at e
    · split at e <;> cases e
    · rename_i q; exact ⟨e, fun z => q z.symm⟩
  unfold assign at h
  split at h
  · split at h
    · cases h
      obtain ⟨a, b⟩ := one e
      exact ⟨a, by simpa using b⟩
    · cases h
  · split at h
    · split at h
      · cases h
        obtain ⟨a, b⟩ := one e
        obtain ⟨a, c⟩ := one a
        exact ⟨a, by simp [b, c]⟩
      · cases h
    · cases h
  · split at h
    · split at h
      · cases h
        obtain ⟨a, b⟩ := one e
        obtain ⟨a, c⟩ := one a
        obtain ⟨a, c2⟩ := one a
        exact ⟨a, by simp [b, c, c2]⟩
      · cases h
    · cases h
  · cases h
theorem assign_owned {tg : List Nat} {d : D} {sl sl2 : Wb.Sl} {σ2 : L2.St} (h : assign tg d sl = some sl2) (hs : ∀ i : Nat, σ2[i]? = σ[i]? ∨ i ∈ tg) {a : Addr} (ha : owned sl2 σ2 a) : owned sl σ a := by
  obtain ⟨i, xs, e1, e2⟩ := ha
  obtain ⟨e3, n⟩ := assign_own h e1
  rcases hs i with q | q
  · exact ⟨i, xs, e3, by rw [← q]; exact e2⟩
  · exact absurd q n
theorem par_rd {tg : List Nat} {e : ME} {D : Ends} {H : Hp} (h : RS K C (.par tg e) D σ H) : tAsg (RD K C e) (gTg K tg) D σ H := by
  obtain ⟨S0, S, sl, rfl, f, h⟩ := h
  unfold execS at h
  refine RD.mk f h.andE.bind fun d S1 v e1 o1 h1 r1 => ?_
  have f1 := f.mono o1 e1
  unfold Wp at h1
  cases q : assign tg d sl with
  | none => rw [q] at h1; exact h1.elim
  | some sl2 =>
    rw [q] at h1
    have h1 : ∀ S', Ext S1 S' → WOk K S' → S'.ah = S1.ah → _ := h1
    have h2 := WpF.ret o1 (h1 S1 (Ext.refl S1) o1 rfl)
    exact gTg_rd f1.sr r1 q fun σ2 s2 _ hs => h2.end_ s2 fun a ha => .inl (assign_owned q hs ha)
theorem par2_rd {i j : Nat} {a b : ME} {D : Ends} {H : Hp} (h : RS K C (.par2 i j a b) D σ H) : tPar i j (tCons (RD K C a) (tCons (RD K C b) tNil)) D σ H := by
  obtain ⟨S0, S, sl, rfl, f, h⟩ := h
  unfold execS at h
  dsimp only [tPar, tCons, tNil]
  refine RD.mk f h.andE.bind fun d S1 v e1 o1 h1 r1 => ?_
  have f1 := f.mono o1 e1
  refine RD.mk f1 h1.bind fun d2 S2 w e2 o2 h2 r2 => ?_
  obtain ⟨c, h2⟩ := Wp.guard o2 h2
  have h2 := WpF.ret o2 (Wp.pure o2 h2)
  exact ⟨v, w, rfl, h2.end_ (((f1.sr.mono o1 e2).set (Rep.mono o1 e2 _ _ r1)).set r2) fun a ha => .inl (owned_val (owned_val ha))⟩
theorem par3_rd {i j k : Nat} {a b c : ME} {D : Ends} {H : Hp} (h : RS K C (.par3 i j k a b c) D σ H) :
    RD K C a σ H fun x H1 => RD K C b σ H1 fun y H2 => RD K C c σ H2 fun z H3 => D.nx (((σ.set i (some x)).set j (some y)).set k (some z)) H3 := by
  obtain ⟨S0, S, sl, rfl, f, h⟩ := h
  unfold execS at h
  refine RD.mk f h.andE.bind fun d S1 v e1 o1 h1 r1 => ?_
  have f1 := f.mono o1 e1
  refine RD.mk f1 h1.bind fun d2 S2 w e2 o2 h2 r2 => ?_
  have f2 := f1.mono o2 e2
  refine RD.mk f2 h2.bind fun d3 S3 u e3 o3 h3 r3 => ?_
  obtain ⟨c, h3⟩ := Wp.guard o3 h3
  have h3 := WpF.ret o3 (Wp.pure o3 h3)
  exact h3.end_ ((((f2.sr.mono o2 e3).set (Rep.mono o2 e3 _ _ (Rep.mono o1 e2 _ _ r1))).set (Rep.mono o2 e3 _ _ r2)).set r3) fun a ha => .inl (owned_val (owned_val (owned_val ha)))
def relI (K : PySem.W.Frag) : BinO → R2
  | .add => rI0 fun i j => .int (i + j)
  | .mul => rI CMul fun i j => .int (i * j)
  | op => relB K op
theorem rel_intI {E : Xc → Wd → Prop} {op : BinO} {i j : Int} {p : RV → Wd → Prop} {Q : VK} (ok : WOk K S) (h : Wp K E (intOp op i j) S p) (hQ : ∀ v H', RQ K S0 S p v H' → Q v H') : relI K op (.int i) (.int j) S.H Q := by
  cases op with
  | add => exact ⟨i, j, rfl, rfl, hQ _ _ (rq_val ok h (by unfold Rep; rfl))⟩
  | mul => obtain ⟨c, h⟩ := Wp.guard ok h; exact ⟨i, j, rfl, rfl, c, hQ _ _ (rq_val ok h (by unfold Rep; rfl))⟩
  | _ => exact rel_int ok h hQ
theorem aug_rd {i : Nat} {op : BinO} {e : ME} {D : Ends} {H : Hp} (h : RS K C (.aug i op e) D σ H) : tAug i (RE K C e) (relI K op) D σ H := by
  obtain ⟨S0, S, sl, rfl, f, h⟩ := h
  unfold execS at h
  have h := h.andE
  have hv : ∃ n v, sl[i]? = some (some (FV.val (.int n))) ∧ σ[i]? = some (some v) ∧ v = .int n := by
    cases q : sl[i]? with
    | none =>
      have ev : evalE C (.var i) sl = fun _ => .stuck := by unfold evalE; simp only [q]
      rw [ev] at h; exact h.elim
    | some ob =>
      cases ob with
      | none =>
        have ev : evalE C (.var i) sl = fun _ => .stuck := by unfold evalE; simp only [q]
        rw [ev] at h; exact h.elim
      | some fv =>
        cases fv with
        | own xs =>
          have ev : evalE C (.var i) sl = fun h => .ok (.brw xs) h := by unfold evalE; simp only [q]
          rw [ev] at h; exact h.elim
        | val d =>
          have ev : evalE C (.var i) sl = fun h => .ok (.val d) h := by unfold evalE; simp only [q]
          rw [ev] at h
          cases d with
          | int n =>
            obtain ⟨v, e1, r⟩ := f.sr.val i _ q
            unfold Rep at r
            exact ⟨n, v, rfl, e1, r⟩
          | _ => exact h.elim
  obtain ⟨n, v, q, q2, rfl⟩ := hv
  refine ⟨_, q2, ?_⟩
  have ev : evalE C (.var i) sl = fun h => .ok (.val (.int n)) h := by unfold evalE; simp only [q]
  rw [ev] at h
  have h : Wp K E0x (do let y ← evalE C e sl; let b ← asInt y; let r ← intOp op n b; asV r) S (fun a S1 => WpF K (owned sl σ) (put i (FV.val a) sl) S1 (PostF K D S0 S (owned sl σ))) := h
  refine RE.mk f h.bind fun r S1 y e1 o1 h1 r1 => ?_
  obtain ⟨m, rfl, e2', h1⟩ := int_of o1 r1 h1
  refine rel_intI (S0 := S0) o1 h1.bind fun z H' ⟨S2, rz, eH, e2, o2, rv, h2⟩ => ?_
  subst eH
  have e02 := Ext.trans o1 e1 e2
  cases rz with
  | own xs => exact h2.elim
  | brw xs => exact h2.elim
  | val d =>
    have h2 := Wp.pure o2 h2
    obtain ⟨hi, p⟩ := WpF.put h2
    exact (p S2 (ExtT.refl S2) o2 rfl).end_ ((f.sr.mono f.ok e02).set rv) fun a ha => .inl (owned_val ha)
/-- a statement's promise, seen from where it began -/
def WpFAt (K : PySem.W.Frag) (T : Addr → Prop) (S : Wd) (h : AH) (m : MF) (post : Fl → Wb.Sl → Wd → Prop) : Prop := match m h with
  | .ok f sl' h' => ∀ S', ExtT T S S' → WOk K S' → S'.ah = h' → post f sl' S'
  | .exc _ _ h' => ∀ S', ExtT T S S' → WOk K S' → S'.ah = h' → False
  | .stuck => False
theorem WpFAt.andE {α : Type} {m : M α} {k : α → MF} {sl' : Wb.Sl} {p : Fl → Wb.Sl → Wd → Prop} (h : WpFAt K T S S1.ah (andE sl' m k) p) (o1 : WOk K S1) (e1 : ExtT T S S1) : Wp K E0x m S1 fun a S2 => WpFAt K T S S2.ah (k a) p := by
  unfold WpFAt Wb.andE at h
  unfold Wp
  cases q : m S1.ah with
  | stuck => rw [q] at h; exact h
  | exc x h' => rw [q] at h; exact fun S' e o z => h S' (ExtT.trans o1 e1 e fun _ z => z.elim) o z
  | ok a h' =>
    rw [q] at h
    intro S2 e2 o2 z2
    subst z2
    exact h

theorem SlRep.grow (h : SlRep K S0 S sl σ) (ok : WOk K S) (e : Ext S S') : SlRep K S0 S' sl σ := h.mono ok e
/-- the loops' common state: where it stands, seen from S -/
structure LoopAt (K : PySem.W.Frag) (S0 S : Wd) (T : Addr → Prop) (σ' : L2.St) (H' : Hp) (P : Wd → Wb.Sl → Prop) : Prop where
  ex : ∃ S1 sl1, S1.H = H' ∧ Fr K S0 S1 sl1 σ' ∧ ExtT T S S1 ∧ (∀ a, owned sl1 σ' a → T a ∨ S.H a = none) ∧ P S1 sl1
theorem whl_rd {c : ME} {b : MSs} {D : Ends} {H : Hp} (h : RS K C (.whl c b) D σ H) : tWhile (RT K C c) (RB K C b) D σ H := by
  obtain ⟨S0, S, sl, rfl, f, h⟩ := h
  unfold execS at h
  generalize hT : owned sl σ = T at h
  let test : Wb.Sl → M Bool := fun sl => do let x ← evalE C c sl; asBl x
  let turn : Wb.Sl → MF := fun sl => execB C b sl
  refine ⟨fun m σ' H' => LoopAt K S0 S T σ' H' fun S1 sl1 => WpFAt K T S S1.ah (loopW test turn m sl1) (PostF K D S0 S T), ⟨wMost, ⟨S, sl, rfl, f, ExtT.refl S, fun a ha => .inl (hT ▸ ha), h⟩⟩, ?_⟩
  intro m σ1 H1 ⟨⟨S1, sl1, eH, f1, e1, sub1, hw⟩⟩
  subst eH
  cases m with
  | zero => exact hw.elim
  | succ m =>
    unfold loopW at hw
    refine RT.mk f1 (hw.andE f1.ok e1) fun k S2 e2 o2 h2 => ?_
    have e02 : ExtT T S S2 := ExtT.trans f1.ok e1 e2 fun _ z => z.elim
    have f2 := f1.mono o2 e2
    cases k with
    | false =>
      refine iteF ?_
      have h3 : ∀ S', ExtT T S S' → WOk K S' → S'.ah = S2.ah → PostF K D S0 S T .nx sl1 S' := h2
      exact (h3 S2 e02 o2 rfl).end_ f2.sr sub1
    | true =>
      refine iteT ?_
      refine ⟨fun σ' H' => LoopAt K S0 S T σ' H' fun S1 sl1 => WpFAt K T S S1.ah (loopW test turn m sl1) (PostF K D S0 S T), fun σ' H' n => ⟨m, Nat.lt_succ_self _, n⟩, ?_⟩
      refine ⟨S0, S2, sl1, rfl, f2, ?_⟩
      unfold WpF
      have h3 : WpFAt K T S S2.ah (fun h => match turn sl1 h with
        | .ok .nx sl' h' => loopW test turn m sl' h'
        | .ok .ct sl' h' => loopW test turn m sl' h'
        | .ok .bk sl' h' => .ok .nx sl' h'
        | r => r) (PostF K D S0 S T) := h2
      unfold WpFAt at h3
      have tr : ∀ {S3 : Wd}, ExtT (owned sl1 σ1) S2 S3 → ExtT T S S3 := fun e3 => ExtT.trans o2 e02 e3 sub1
      have sb : ∀ {S3 : Wd} {σ3 : L2.St} {sl3 : Wb.Sl}, (∀ a, owned sl3 σ3 a → owned sl1 σ1 a ∨ S2.H a = none) → ∀ a, owned sl3 σ3 a → T a ∨ S.H a = none := fun hs a ha => by
        rcases hs a ha with z | z
        · exact sub1 a z
        · exact .inr (e02.dom a z)
      dsimp only [turn] at h3
      cases q : execB C b sl1 S2.ah with
      | stuck => simp only [q] at h3
      | exc x s' h' => simp only [q] at h3; exact fun S3 e3 o3 z3 => h3 S3 (tr e3) o3 z3
      | ok fl s3 h3' =>
        simp only [q] at h3
        cases fl with
        | rt r => exact fun S3 e3 o3 z3 σ3 sr3 sub3 => h3 S3 (tr e3) o3 z3 σ3 sr3 (sb (S3 := S3) sub3)
        | bk => exact fun S3 e3 o3 z3 σ3 sr3 sub3 => h3 S3 (tr e3) o3 z3 σ3 sr3 (sb (S3 := S3) sub3)
        | nx =>
          intro S3 e3 o3 z3 σ3 sr3 sub3
          refine ⟨⟨S3, s3, rfl, ⟨o3, sr3⟩, tr e3, sb (S3 := S3) sub3, ?_⟩⟩
          rw [z3]; exact h3
        | ct =>
          intro S3 e3 o3 z3 σ3 sr3 sub3
          refine ⟨⟨S3, s3, rfl, ⟨o3, sr3⟩, tr e3, sb (S3 := S3) sub3, ?_⟩⟩
          rw [z3]; exact h3
theorem for_rd {tg : List Nat} {it : MI} {b : MSs} {D : Ends} {H : Hp} (h : RS K C (.for_ tg it b) D σ H) : tFor (RI K C it) (gTg K tg) (RB K C b) D σ H := by
  obtain ⟨S0, S, sl, rfl, f, h⟩ := h
  unfold execS at h
  refine RI.mk f h.andE fun items J Sa ea oa h1 hJ => ?_
  have fa := f.mono oa ea
  have tk : Tok (owned sl σ) Sa := fa.sr.tok
  have h1 := WpF.from_ f oa ea h1
  generalize hT : owned sl σ = T at h1 tk
  let turn : Wb.D → Wb.Sl → MF := fun d sl => andE sl (opt (assign tg d sl)) fun sl2 => execB C b sl2
  refine ⟨fun i m σ' H' => m = items.length - i ∧ i ≤ items.length ∧ LoopAt K S0 Sa T σ' H' fun S1 sl1 => WpFAt K T Sa S1.ah (loopF turn (items.drop i) sl1) (PostF K D S0 Sa T),
    ⟨items.length, by simp, Nat.zero_le _, ⟨Sa, sl, rfl, fa, ExtT.refl Sa, fun a ha => .inl (hT ▸ ha), h1⟩⟩, ?_⟩
  rintro i m σ1 H1 ⟨rfl, hi, ⟨S1, sl1, eH, f1, e1, sub1, hw⟩⟩
  subst eH
  have it := hJ T S1 tk e1 f1.ok i
  by_cases hlt : i < items.length
  · right
    have hd : items[i]? = some items[i] := List.getElem?_eq_getElem hlt
    obtain ⟨go, yl⟩ := it.1 _ hd
    rw [List.drop_eq_getElem_cons hlt] at hw
    generalize items[i] = d at hd yl hw
    refine ⟨go, fun σ' H' => items.length - (i + 1) = items.length - (i + 1) ∧ i + 1 ≤ items.length ∧ LoopAt K S0 Sa T σ' H' fun S1 sl1 => WpFAt K T Sa S1.ah (loopF turn (items.drop (i + 1)) sl1) (PostF K D S0 Sa T), fun σ' H' n => ⟨_, by omega, n⟩, fun x H' hy => ?_⟩
    obtain ⟨S2, eH, z2, e2, o2, rx⟩ := yl x H' hy
    subst eH
    have e02 : ExtT T Sa S2 := ExtT.trans f1.ok e1 e2 fun _ z => z.elim
    have f2 := f1.mono o2 e2
    rw [← z2] at hw
    unfold loopF at hw
    have ha : ∃ sl2, assign tg d sl1 = some sl2 ∧ WpFAt K T Sa S2.ah (fun h => match execB C b sl2 h with
        | .ok .nx sl' h' => loopF turn (items.drop (i + 1)) sl' h'
        | .ok .ct sl' h' => loopF turn (items.drop (i + 1)) sl' h'
        | .ok .bk sl' h' => .ok .nx sl' h'
        | r => r) (PostF K D S0 Sa T) := by
      cases q : assign tg d sl1 with
      | none =>
        have et : turn d sl1 = fun _ => .stuck := by
          show Wb.andE sl1 (opt (assign tg d sl1)) _ = _
          rw [q]; rfl
        rw [et] at hw
        exact hw.elim
      | some sl2 =>
        have et : turn d sl1 = execB C b sl2 := by
          show Wb.andE sl1 (opt (assign tg d sl1)) _ = _
          rw [q]; rfl
        rw [et] at hw
        exact ⟨sl2, rfl, hw⟩
    obtain ⟨sl2, ha, hw⟩ := ha
    refine gTg_rd f2.sr rx ha fun σ2 s2 _ hs2 => ?_
    have sub2 : ∀ a, owned sl2 σ2 a → T a ∨ Sa.H a = none := fun a h => sub1 a (assign_owned ha hs2 h)
    refine ⟨S0, S2, sl2, rfl, ⟨o2, s2⟩, ?_⟩
    unfold WpF
    unfold WpFAt at hw
    have tr : ∀ {S3 : Wd}, ExtT (owned sl2 σ2) S2 S3 → ExtT T Sa S3 := fun e3 => ExtT.trans o2 e02 e3 sub2
    have sb : ∀ {S3 : Wd} {σ3 : L2.St} {sl3 : Wb.Sl}, (∀ a, owned sl3 σ3 a → owned sl2 σ2 a ∨ S2.H a = none) → ∀ a, owned sl3 σ3 a → T a ∨ Sa.H a = none := fun hs a ha => by
      rcases hs a ha with z | z
      · exact sub2 a z
      · exact .inr (e02.dom a z)
    cases q : execB C b sl2 S2.ah with
    | stuck => simp only [q] at hw
    | exc x s' h' => simp only [q] at hw; exact fun S3 e3 o3 z3 => hw S3 (tr e3) o3 z3
    | ok fl s3 h3' =>
      simp only [q] at hw
      cases fl with
      | rt r => exact fun S3 e3 o3 z3 σ3 sr3 sub3 => hw S3 (tr e3) o3 z3 σ3 sr3 (sb (S3 := S3) sub3)
      | bk => exact fun S3 e3 o3 z3 σ3 sr3 sub3 => hw S3 (tr e3) o3 z3 σ3 sr3 (sb (S3 := S3) sub3)
      | nx =>
        intro S3 e3 o3 z3 σ3 sr3 sub3
        refine ⟨rfl, hlt, ⟨S3, s3, rfl, ⟨o3, sr3⟩, tr e3, sb (S3 := S3) sub3, ?_⟩⟩
        rw [z3]; exact hw
      | ct =>
        intro S3 e3 o3 z3 σ3 sr3 sub3
        refine ⟨rfl, hlt, ⟨S3, s3, rfl, ⟨o3, sr3⟩, tr e3, sb (S3 := S3) sub3, ?_⟩⟩
        rw [z3]; exact hw
  · left
    have e : i = items.length := by omega
    subst e
    refine ⟨it.2 (Nat.le_refl _), ?_⟩
    rw [List.drop_length] at hw
    unfold loopF at hw
    have h3 : ∀ S', ExtT T Sa S' → WOk K S' → S'.ah = S1.ah → PostF K D S0 Sa T .nx sl1 S' := hw
    exact (h3 S1 e1 f1.ok rfl).end_ f1.sr sub1
end Wb

set_option maxHeartbeats 8000000
/-! The small text against the row's text. -/
namespace Wb
open PySem PySem.Spec L2

/-! ### the same text -/
structure Pr where
  fns : List (Str × Fn)
  cons : List (Str × D)
mutual
def D.same : D → D → Bool
  | .non, .non => true
  | .bl a, .bl b => a == b
  | .int a, .int b => decide (a = b)
  | .str a, .str b => decide (a = b)
  | .tup a, .tup b => sameL a b
  | _, _ => false
def sameL : List D → List D → Bool
  | [], [] => true
  | a :: as, b :: bs => a.same b && sameL as bs
  | _, _ => false
end
mutual
theorem D.same_eq : ∀ (a b : D), a.same b = true → a = b
  | .non, b, h => by cases b <;> first | rfl | exact Bool.noConfusion (show false = true from h)
  | .bl x, b, h => by
    cases b <;> first | exact Bool.noConfusion (show false = true from h) | skip
    have h : (x == _) = true := h
    rw [beq_iff_eq.mp h]
  | .int x, b, h => by
    cases b <;> first | exact Bool.noConfusion (show false = true from h) | skip
    have h : decide (x = _) = true := h
    rw [of_decide_eq_true h]
  | .str x, b, h => by
    cases b <;> first | exact Bool.noConfusion (show false = true from h) | skip
    have h : decide (x = _) = true := h
    rw [of_decide_eq_true h]
  | .tup x, b, h => by
    cases b <;> first | exact Bool.noConfusion (show false = true from h) | skip
    have h : sameL x _ = true := h
    rw [sameL_eq _ _ h]
  | .lst x, b, h => by cases b <;> exact Bool.noConfusion (show false = true from h)
  | .scr x, b, h => by cases b <;> exact Bool.noConfusion (show false = true from h)
  | .ref x, b, h => by cases b <;> exact Bool.noConfusion (show false = true from h)
theorem sameL_eq : ∀ (a b : List D), sameL a b = true → a = b
  | [], [], _ => rfl
  | [], _ :: _, h => Bool.noConfusion (show false = true from h)
  | _ :: _, [], h => Bool.noConfusion (show false = true from h)
  | a :: as, b :: bs, h => by
    have h : (a.same b && sameL as bs) = true := h
    rw [Bool.and_eq_true] at h
    rw [D.same_eq a b h.1, sameL_eq as bs h.2]
end
def visB (sc : Scope) (x : Str) : Bool := match sc.names.lookup x with
  | some .local => true | some .cell => true | some .free => true | _ => false
def glB (sc : Scope) (x : Str) : Bool := decide (sc.names.lookup x = some .globalImplicit) && !(x == ("__debug__" : Str))
def nmB (N : List Str) (sc : Scope) (i : Nat) (x : Str) : Bool := decide (N[i]? = some x) && visB sc x && !(x == ("__debug__" : Str)) && !(x == ("__classdict__" : Str))
def cstB : D → Const → Bool
  | .int i, .int j => decide (i = j)
  | .bl a, .bool b => a == b
  | .str a, .str b => decide (a = b)
  | .non, .none => true
  | _, _ => false
def notSet : Expr → Bool
  | .Set .. => false
  | _ => true
def plIx : Expr → Bool
  | .Slice .. => false
  | _ => true
def clsB : List Cls → Expr → Bool
  | [c], .Name x _ => decide (x = clsNm c)
  | cs, .Tuple es _ _ => decide (es.length = cs.length) && decide (cs.length ≤ 10) && (List.zip cs es).all fun p => match p.2 with | .Name x _ => decide (x = clsNm p.1) | _ => false
  | _, _ => false
def clsG (sc : Scope) (cs : List Cls) : Bool := cs.all fun c => glB sc (clsNm c)
def tgB (N : List Str) (sc : Scope) : List Nat → Expr → Bool
  | [i], .Name x _ => decide (N[i]? = some x) && (match sc.names.lookup x with | some .local => true | some .cell => true | _ => false)
  | tg, .Tuple es _ _ => decide (tg.length = es.length) && decide (2 ≤ tg.length) && (List.zip tg es).all fun p => match p.2 with
    | .Name x _ => decide (N[p.1]? = some x) && (match sc.names.lookup x with | some .local => true | some .cell => true | _ => false)
    | _ => false
  | _, _ => false
def ownOfN (N : List Str) (ws : List Nat) : List (Str × Nat) := ws.map fun i => (N.getD i "", i)
def isTup : Expr → Bool
  | .Tuple .. => true
  | _ => false
mutual
def agE (P : Pr) (N : List Str) : ME → Scope → Expr → Bool
  | .var i, sc, e => match e with | .Name x _ => nmB N sc i x | _ => false
  | .cst d, _, e => match e with | .Constant c _ _ => cstB d c | _ => false
  | .glb x d, sc, e => match e with | .Name y _ => decide (x = y) && glB sc x && (P.cons.any fun p => decide (p.1 = x) && p.2.same d) | _ => false
  | .bin op a b, sc, e => match e with
    | .BinOp x o y _ => decide (opA op = some o) && agE P N a sc x && agE P N b sc y
    | .Compare x [o] [y] _ => decide (opC op = some o) && notSet y && agE P N a sc x && agE P N b sc y
    | .Subscript x y _ => decide (op = .ix) && plIx y && agE P N a sc x && agE P N b sc y
    | _ => false
  | .una op a, sc, e => match e with
    | .UnaryOp .USub x _ => decide (op = .neg) && agE P N a sc x
    | .UnaryOp .Not x _ => decide (op = .not_) && agE P N a sc x
    | .Compare x [.Is] [.Constant .none _ _] _ => decide (op = .isN) && agE P N a sc x
    | .Compare x [.IsNot] [.Constant .none _ _] _ => decide (op = .notN) && agE P N a sc x
    | _ => false
  | .chn o1 o2 a b c, sc, e => match e with
    | .Compare x [p, q] [y, z] _ => decide (opC o1 = some p) && decide (opC o2 = some q) && notSet z && agE P N a sc x && agE P N b sc y && agE P N c sc z
    | _ => false
  | .and_ a b, sc, e => match e with
    | .BoolOp .And [x, y] _ => agE P N a sc x && agE P N b sc y
    | .BoolOp .And (x :: y :: z :: r) p => agE P N a sc x && agE P N b sc (.BoolOp .And (y :: z :: r) p)
    | _ => false
  | .or_ a b, sc, e => match e with
    | .BoolOp .Or [x, y] _ => agE P N a sc x && agE P N b sc y
    | .BoolOp .Or (x :: y :: z :: r) p => agE P N a sc x && agE P N b sc (.BoolOp .Or (y :: z :: r) p)
    | _ => false
  | .ite c a b, sc, e => match e with
    | .IfExp x y z _ => agE P N c sc x && agE P N a sc y && agE P N b sc z
    | _ => false
  | .lst es, sc, e => match e with | .List xs _ => agEs P N es sc xs | _ => false
  | .tup es, sc, e => match e with | .Tuple xs _ _ => agEs P N es sc xs | _ => false
  | .cut a lo hi, sc, e => match e with
    | .Subscript x (.Slice l h none _) _ => agE P N a sc x && agO P N lo sc l && agO P N hi sc h
    | _ => false
  | .blt f es, sc, e => match e with
    | .Call (.Name nm _) xs [] _ => match f with
      | .isi cs => decide (nm = "isinstance") && glB sc "isinstance" && (match xs with | [x, c] => agEs P N es sc [x] && clsB cs c && clsG sc cs | _ => false)
      | f => decide (nm = bltName f) && glB sc (bltName f) && !xs.isEmpty && agEs P N es sc xs
    | _ => false
  | .call g es, sc, e => match e with
    | .Call (.Name nm _) xs [] _ => decide ((P.fns[g]?).map (·.1) = some nm) && glB sc nm && agEs P N es sc xs
    | _ => false
  | .cmp el tg it c ws, sc, e => match e with
    | .ListComp x [⟨t, i, ifs, 0⟩] sc2 _ => blkC N sc sc2 (ownOfN N ws) && (tg.all fun i => ws.contains i) && notSet i && agI P N it sc i (isTup t) && tgB N sc2 tg t && agC P N c sc2 ifs && agE P N el sc2 x
    | _ => false
def agEs (P : Pr) (N : List Str) : MEs → Scope → List Expr → Bool
  | .nil, _, xs => xs.isEmpty
  | .cons a r, sc, xs => match xs with | x :: ys => agE P N a sc x && agEs P N r sc ys | [] => false
def agO (P : Pr) (N : List Str) : MO → Scope → Option Expr → Bool
  | .no, _, o => o.isNone
  | .yes a, sc, o => match o with | some x => agE P N a sc x | none => false
def agC (P : Pr) (N : List Str) : MO → Scope → List Expr → Bool
  | .no, _, o => o.isEmpty
  | .yes a, sc, o => match o with | [x] => agE P N a sc x | _ => false
def agI (P : Pr) (N : List Str) : MI → Scope → Expr → Bool → Bool
  | .seq a, sc, e, _ => agE P N a sc e
  | .rng1 a, sc, e, _ => match e with | .Call (.Name nm _) [x] [] _ => decide (nm = "range") && glB sc "range" && agE P N a sc x | _ => false
  | .rng2 a b, sc, e, _ => match e with | .Call (.Name nm _) [x, y] [] _ => decide (nm = "range") && glB sc "range" && agE P N a sc x && agE P N b sc y | _ => false
  | .rng3 a b c, sc, e, _ => match e with | .Call (.Name nm _) [x, y, z] [] _ => decide (nm = "range") && glB sc "range" && agE P N a sc x && agE P N b sc y && agE P N c sc z | _ => false
  | .enum a, sc, e, t => t && match e with | .Call (.Name nm _) [x] [] _ => decide (nm = "enumerate") && glB sc "enumerate" && agE P N a sc x | _ => false
  | .zip a b, sc, e, t => t && match e with | .Call (.Name nm _) [x, y] [] _ => decide (nm = "zip") && glB sc "zip" && agE P N a sc x && agE P N b sc y | _ => false
end

/-! ### what a def's surroundings give -/
def bltNames : List Str := ["len", "abs", "min", "max", "sum", "list", "tuple", "all", "int", "str", "isinstance", "range", "enumerate", "zip", "bool"]
structure XOk (P : Pr) (C : Callee) (k : Nat) (N : List Str) (sc : Scope) (X : Cx) : Prop where
  hN : X.N = N
  nd : N.Nodup
  hs : ∀ x, (sc.names.lookup x = some .local → X.env.scope.names.lookup x = some .local) ∧ (sc.names.lookup x = some .cell → X.env.scope.names.lookup x = some .cell) ∧
    (sc.names.lookup x = some .free → X.env.scope.names.lookup x = some .cell ∨ X.env.scope.names.lookup x = some .free) ∧ (sc.names.lookup x = some .globalImplicit → X.env.scope.names.lookup x = some .globalImplicit)
  hc : X.calm = true
  hm : ∀ x ∈ bltNames, X.mg x = none
  hk : ∀ p ∈ P.cons, ∃ u v, X.mg p.1 = some u ∧ RelV v u ∧ ∀ S, Rep X.K S p.2 v
  hf : ∀ g p, P.fns[g]? = some p → ∃ f fd ps, X.mg p.1 = some (.ref f) ∧ PySem.W.keepIn X.K (.ref f) = true ∧ Binds X.K fd ps [] ∧ FnOk X.prog X.w X.K X.mg X.base CX0 k f fd ps (spF X.K C g)
  hb : ∀ g args (h h' : AH) ys, C g args h ≠ .ok (.brw ys) h'
  hr : Room k X.A
  fn : ∀ x, (sc.names.lookup x = some .local ∨ sc.names.lookup x = some .cell) → X.fn x = true ∨ X.env.scope.names.lookup x = some .local
def Snd (C : Callee) (X : Cx) (e : Expr) (m : ME) : Prop := PE X e (RE X.K C m) ∧ PT X e (RT X.K C m) ∧ (∀ o vs p, e = .BoolOp o vs p → PW X e (RT X.K C m)) ∧ Plain e
variable {P : Pr} {C : Callee} {k : Nat} {N : List Str} {sc : Scope} {X : Cx}
theorem XOk.gl (O : XOk P C k N sc X) {x : Str} (h : glB sc x = true) : Gl X x ∧ (x == ("__debug__" : Str)) = false := by
  unfold glB at h
  rw [Bool.and_eq_true, Bool.not_eq_true'] at h
  refine ⟨?_, h.2⟩
  exact (O.hs x).2.2.2 (of_decide_eq_true h.1)
theorem lookup_snd {g : Str → NameKind → NameKind} {x : Str} : ∀ l : List (Str × NameKind), (l.map fun p => (p.1, g p.1 p.2)).lookup x = (l.lookup x).map (g x)
  | [] => rfl
  | (n, k) :: r => by
    show List.lookup x ((n, g n k) :: _) = _
    rw [List.lookup_cons, List.lookup_cons]
    by_cases h : (x == n) = true
    · have e : x = n := by simpa using h
      rw [h]; subst e; rfl
    · have h : (x == n) = false := by simpa using h
      rw [h]; exact lookup_snd r
theorem relabel_at {sc2 : Scope} {env : Env} (x : Str) : (relabel sc2 env).names.lookup x = (sc2.names.lookup x).map (fun k : NameKind => if (k == NameKind.free && env.scope.kind == ScopeKind.function && env.kindOf x == some NameKind.cell) = true then NameKind.cell else k) := by
  have e : (relabel sc2 env).names = sc2.names.map (fun p : Str × NameKind => (p.1, if (p.2 == NameKind.free && env.scope.kind == ScopeKind.function && env.kindOf p.1 == some NameKind.cell) = true then NameKind.cell else p.2)) := by
    show (sc2.names.map fun (n, k) => if (k == NameKind.free && env.scope.kind == ScopeKind.function && env.kindOf n == some NameKind.cell) = true then (n, NameKind.cell) else (n, k)) = _
    refine List.map_congr_left fun p _ => ?_
    obtain ⟨n, k⟩ := p
    dsimp only
    split <;> rfl
  rw [e]
  exact lookup_snd (g := fun n k => if (k == NameKind.free && env.scope.kind == ScopeKind.function && env.kindOf n == some NameKind.cell) = true then NameKind.cell else k) _
theorem XOk.blk (O : XOk P C k N sc X) {sc2 : Scope} (s : Shared) (H : Hp) (c : Addr) (cl : List (Str × Addr)) (fp : List Addr) : XOk P C k N sc2 (X.blk s H sc2 (compEnvC sc2 cl c X.env) fp) := by
  have hl : ∀ x, (X.blk s H sc2 (compEnvC sc2 cl c X.env) fp).env.scope.names.lookup x = (sc2.names.lookup x).map (fun k : NameKind => if (k == NameKind.free && X.env.scope.kind == ScopeKind.function && X.env.kindOf x == some NameKind.cell) = true then NameKind.cell else k) := fun x => relabel_at x
  refine ⟨O.hN, O.nd, fun x => ⟨fun h => ?_, fun h => ?_, fun h => ?_, fun h => ?_⟩, O.hc, O.hm, O.hk, O.hf, O.hb, O.hr, fun x h => ?_⟩
  · rw [hl, h]; rfl
  · rw [hl, h]; rfl
  · rw [hl, h, Option.map_some]
    split
    · exact .inl rfl
    · exact .inr rfl
  · rw [hl, h]; rfl
  · rcases h with h | h
    · right; rw [hl, h]; rfl
    · left
      show (sc2.names.lookup x == some .cell) = true
      rw [h]; rfl
theorem XOk.hu (O : XOk P C k N sc X) : X.A.units + 64 < cLine := O.hr.units
/-- a value's test, where the form is no test's own -/
theorem snd_val {e : Expr} {m : ME} (h : PE X e (RE X.K C m)) (he : ∀ whole, isTrue e X.env whole = (do let v ← whole; standAt e.pos; holding [v] (truthy v))) (hb : ∀ o vs p, e ≠ .BoolOp o vs p) (pl : Plain e) : Snd C X e m :=
  ⟨h, PT.to (pt_val h he) fun σ H Q q => RT.of q, fun o vs p z => absurd z (hb o vs p), pl⟩
theorem nm_rd (O : XOk P C k N sc X) {i : Nat} {x : Str} {pos : Pos} (h : nmB N sc i x = true) : PE X (.Name x pos) (RE X.K C (.var i)) := by
  unfold nmB at h
  simp only [Bool.and_eq_true, Bool.not_eq_true'] at h
  obtain ⟨⟨⟨h1, h2⟩, h3⟩, h4⟩ := h
  refine re_var (by rw [O.hN]; exact of_decide_eq_true h1) ?_ h3 h4
  unfold Vis
  unfold visB at h2
  split at h2
  · exact .inl ((O.hs x).1 (by assumption))
  · exact .inr (.inl ((O.hs x).2.1 (by assumption)))
  · exact .inr ((O.hs x).2.2.1 (by assumption))
  · cases h2
theorem plix_rd {b : Expr} (h : plIx b = true) : PlainIx b := by
  intro o i
  cases b <;> first | rfl | exact Bool.noConfusion (show false = true from h)
theorem notset_rd {b : Expr} (h : notSet b = true) (op : CmpOp) : behindInMarks op b = false := by
  cases b <;> first | rfl | exact Bool.noConfusion (show false = true from h)
theorem fold_rd {b : Expr} (h : notSet b = true) (env : Env) : ∀ x, foldedSetIterable b env x = pure x := by
  intro x
  cases b <;> first | rfl | exact Bool.noConfusion (show false = true from h)
theorem and2 {a b : Bool} (h : (a && b) = true) : a = true ∧ b = true := by rw [Bool.and_eq_true] at h; exact h
theorem tg_rd (O : XOk P C k N sc X) : ∀ (tg : List Nat) (t : Expr), tgB N sc tg t = true → PG X t (gTg X.K tg) := by
  have one : ∀ {i : Nat} {x : Str} {p : Pos}, (decide (N[i]? = some x) && (match sc.names.lookup x with | some .local => true | some .cell => true | _ => false)) = true → PG X (.Name x p) (gName i) := fun {i x p} h => by
    obtain ⟨h1, h2⟩ := and2 h
    have h3 : sc.names.lookup x = some .local ∨ sc.names.lookup x = some .cell := by
      split at h2
      · exact .inl (by assumption)
      · exact .inr (by assumption)
      · cases h2
    exact pg_name (by rw [O.hN]; exact O.nd) (by rw [O.hN]; exact of_decide_eq_true h1) (h3.elim (fun z => .inl ((O.hs x).1 z)) fun z => .inr ((O.hs x).2.1 z)) (O.fn x h3)
  have nmE : ∀ {i : Nat} {e : Expr}, (match e with
    | .Name x _ => decide (N[i]? = some x) && (match sc.names.lookup x with | some .local => true | some .cell => true | _ => false)
    | _ => false) = true → ∃ x p, e = .Name x p ∧ PG X e (gName i) := fun {i e} h => by
    cases e <;> first | exact Bool.noConfusion (show false = true from h) | exact ⟨_, _, rfl, one h⟩
  intro tg t h
  match tg, t, h with
  | [i], .Name x p, h => exact one h
  | [i], .Tuple es q p, h =>
    have h : (decide (1 = es.length) && decide (2 ≤ 1) && _) = true := h
    simp at h
  | [i, j], .Tuple es q p, h =>
    have h : (decide (2 = es.length) && decide (2 ≤ 2) && (List.zip [i, j] es).all _) = true := h
    obtain ⟨h1, h2⟩ := and2 h
    obtain ⟨h1, _⟩ := and2 h1
    match es, of_decide_eq_true h1, h2 with
    | [a, b], _, h2 =>
      have h2 : (_ && (_ && true)) = true := h2
      obtain ⟨q1, q2⟩ := and2 h2
      obtain ⟨q2, _⟩ := and2 q2
      obtain ⟨_, _, rfl, g1⟩ := nmE q1
      obtain ⟨_, _, rfl, g2⟩ := nmE q2
      exact pg_tup O.hc (pgs_cons g1 (pgs_cons g2 pgs_nil))
  | [i, j, l], .Tuple es q p, h =>
    have h : (decide (3 = es.length) && decide (2 ≤ 3) && (List.zip [i, j, l] es).all _) = true := h
    obtain ⟨h1, h2⟩ := and2 h
    obtain ⟨h1, _⟩ := and2 h1
    match es, of_decide_eq_true h1, h2 with
    | [a, b, c], _, h2 =>
      have h2 : (_ && (_ && (_ && true))) = true := h2
      obtain ⟨q1, q2⟩ := and2 h2
      obtain ⟨q2, q3⟩ := and2 q2
      obtain ⟨q3, _⟩ := and2 q3
      obtain ⟨_, _, rfl, g1⟩ := nmE q1
      obtain ⟨_, _, rfl, g2⟩ := nmE q2
      obtain ⟨_, _, rfl, g3⟩ := nmE q3
      exact pg_tup O.hc (pgs_cons g1 (pgs_cons g2 (pgs_cons g3 pgs_nil)))
  | i :: j :: l :: m :: r, .Tuple es q p, h => exact ⟨fun _ _ _ _ _ _ _ _ _ z => z.elim⟩
  | [], t, h => exact ⟨fun _ _ _ _ _ _ _ _ _ z => z.elim⟩

/-! ### expressions -/
theorem PTs.to {ifs : List Expr} {t t' : TT} (h : PTs X ifs t) (w : ∀ σ H Q, t' σ H Q → t σ H Q) : PTs X ifs t' := ⟨fun pins s σ H Q I q => h.run pins s σ H Q I (w σ H Q q)⟩
theorem XOk.blkOk (O : XOk P C k N sc X) {sc2 : Scope} {own : List (Str × Nat)} (h : blkC N sc sc2 own = true) : BlkOk X.N X.env.scope sc2 own := by
  have b := blkOk_by h
  rw [O.hN]
  exact ⟨b.kind, b.uniq, b.ix, fun y hy e => (b.free y hy e).elim (fun z => .inl ((O.hs y.1).2.1 z)) fun z => (O.hs y.1).2.2.1 z, b.own⟩
theorem rng_mem : ("range" : Str) ∈ bltNames := by decide +kernel
theorem enm_mem : ("enumerate" : Str) ∈ bltNames := by decide +kernel
theorem zip_mem : ("zip" : Str) ∈ bltNames := by decide +kernel
theorem rt_ite {K : PySem.W.Frag} {σ : L2.St} {c a b : ME} {H : Hp} {Q : Bool → Hp → Prop} (h : RT K C (.ite c a b) σ H Q) : RT K C c σ H fun k H1 => if k = true then RT K C a σ H1 Q else RT K C b σ H1 Q := by
  obtain ⟨S0, S, sl, rfl, f, h⟩ := h
  unfold evalE at h
  have h' : Wp K E0x ((do let x ← evalE C c sl; asBl x) >>= fun k => (if k = true then evalE C a sl else evalE C b sl) >>= asBl) S (fun b S' => Q b S'.H) := by
    have h := h.unassoc
    rw [M.assoc]
    have e : (fun x => asBl x >>= fun k => (if k = true then evalE C a sl else evalE C b sl) >>= asBl) = (fun x => (do let k ← asBl x; if k = true then evalE C a sl else evalE C b sl) >>= asBl) := by
      funext x; rw [M.assoc]
    rw [e]; exact h
  refine RT.mk f h'.bind fun k S1 e1 k1 q => ?_
  cases k with
  | true =>
    rw [if_pos rfl] at q ⊢
    exact RT.mk (f.mono k1 e1) q fun r S' e o z => z
  | false =>
    rw [if_neg (by decide)] at q ⊢
    exact RT.mk (f.mono k1 e1) q fun r S' e o z => z
theorem pl_of {e : Expr} (h : ∀ x p, e ≠ .Starred x p) : Plain e := fun es env => by
  cases e <;> first | rfl | exact absurd rfl (h _ _)
theorem snd_cmp {e x y : Expr} {o : CmpOp} {pos : Pos} {op : BinO} {a b : ME} (O : XOk P C k N sc X) (e1 : e = .Compare x [o] [y] pos) (h1 : opC op = some o) (h2 : notSet y = true) (ha : PE X x (RE X.K C a)) (hb : PE X y (RE X.K C b)) : Snd C X e (.bin op a b) := by
  subst e1
  have r := opr_c O.hu h1
  exact ⟨PE.to (pe_cmpR r ha hb (notset_rd h2 o)) fun σ H Q q => re_two q, PT.to (pt_cmpR r ha hb (notset_rd h2 o)) fun σ H Q q => re_two (RT.of q), (fun o vs p z => by cases z), pl_of fun x p z => by cases z⟩
theorem isi_names {sc : Scope} : ∀ {cs : List Cls} {es : List Expr}, es.length = cs.length → ((List.zip cs es).all fun p => match p.2 with | .Name x _ => decide (x = clsNm p.1) | _ => false) = true →
    ∀ (i : Nat) (c : Cls) (n : Expr), cs[i]? = some c → es[i]? = some n → ∃ p, n = .Name (clsNm c) p
  | [], _, _, _, i, c, n, h, _ => by simp at h
  | c :: cs, [], hl, _, _, _, _, _, _ => by simp at hl
  | c :: cs, e :: es, hl, ha, i, c', n, h1, h2 => by
    rw [List.zip_cons_cons, List.all_cons, Bool.and_eq_true] at ha
    cases i with
    | zero =>
      simp at h1 h2
      subst h1; subst h2
      obtain ⟨q, _⟩ := ha
      cases e <;> first | exact Bool.noConfusion (show false = true from q) | skip
      exact ⟨_, by rw [of_decide_eq_true (show decide (_ = clsNm c) = true from q)]⟩
    | succ i => exact isi_names (sc := sc) (by simpa using hl) ha.2 i c' n (by simpa using h1) (by simpa using h2)
theorem mem_blt {x : Str} (h : x ∈ bltNames) (O : XOk P C k N sc X) : X.mg x = none := O.hm x h
theorem clsNm_mem (c : Cls) : clsNm c ∈ bltNames := by cases c <;> decide +kernel
theorem bltName_mem (f : BltO) : bltName f ∈ bltNames := by
  cases f with
  | isi cs => show ("isinstance" : Str) ∈ bltNames; decide +kernel
  | _ => unfold bltName; decide +kernel
mutual
theorem snd_E : ∀ (m : ME) {k : Nat} {sc : Scope} {X : Cx} {e : Expr}, XOk P C k N sc X → agE P N m sc e = true → Snd C X e m
  | .var i, k, sc, X, e, O, h => by
    cases e <;> first | exact Bool.noConfusion (show false = true from h) | skip
    exact snd_val (nm_rd O h) (fun _ => rfl) (fun o vs p z => by cases z) (pl_of fun x p z => by cases z)
  | .cst d, k, sc, X, e, O, h => by
    cases e <;> first | exact Bool.noConfusion (show false = true from h) | skip
    rename_i c j pos
    have h : cstB d c = true := h
    refine snd_val ?_ (fun _ => rfl) (fun o vs p z => by cases z) (pl_of fun x p z => by cases z)
    cases d <;> cases c <;> first | exact Bool.noConfusion (show false = true from h) | skip
    · exact re_const pe_non fun S => by unfold Rep; rfl
    · rw [← beq_iff_eq.mp (show (_ == _) = true from h)]; exact re_const pe_bl fun S => by unfold Rep; rfl
    · rw [← of_decide_eq_true (show decide (_ = _) = true from h)]; exact re_const pe_int fun S => by unfold Rep; rfl
    · rw [← of_decide_eq_true (show decide (_ = _) = true from h)]; exact re_const pe_str fun S => by unfold Rep; rfl
  | .glb x d, k, sc, X, e, O, h => by
    cases e <;> first | exact Bool.noConfusion (show false = true from h) | skip
    rename_i y pos
    have h : (decide (x = y) && glB sc x && (P.cons.any fun p => decide (p.1 = x) && p.2.same d)) = true := h
    obtain ⟨h1, h2⟩ := and2 h
    obtain ⟨h1, h3⟩ := and2 h1
    have exy := of_decide_eq_true h1
    subst exy
    obtain ⟨hg, hd⟩ := O.gl h3
    obtain ⟨p, hp, h4⟩ := List.any_eq_true.mp h2
    obtain ⟨h4, h5⟩ := and2 h4
    obtain ⟨u, v, q1, q2, q3⟩ := O.hk p hp
    rw [of_decide_eq_true h4] at q1
    rw [D.same_eq _ _ h5] at q3
    exact snd_val (re_glb (pe_glob hg q1 q2 hd) q3) (fun _ => rfl) (fun o vs p z => by cases z) (pl_of fun x p z => by cases z)
  | .bin op a b, k, sc, X, e, O, h => by
    cases e <;> first | exact Bool.noConfusion (show false = true from h) | skip
    · rename_i x o y pos
      have h : (decide (opA op = some o) && agE P N a sc x && agE P N b sc y) = true := h
      obtain ⟨h1, h3⟩ := and2 h
      obtain ⟨h1, h2⟩ := and2 h1
      have ha := snd_E a O h2
      have hb := snd_E b O h3
      exact snd_val (PE.to (pe_op (opr_a (of_decide_eq_true h1)) ha.1 hb.1) fun σ H Q q => re_two q) (fun _ => rfl) (fun o vs p z => by cases z) (pl_of fun x p z => by cases z)
    · rename_i x os ys pos
      match os, ys, h with
      | [o], [y], h =>
        have h : (decide (opC op = some o) && notSet y && agE P N a sc x && agE P N b sc y) = true := h
        obtain ⟨h1, h4⟩ := and2 h
        obtain ⟨h1, h3⟩ := and2 h1
        obtain ⟨h1, h2⟩ := and2 h1
        exact snd_cmp O rfl (of_decide_eq_true h1) h2 (snd_E a O h3).1 (snd_E b O h4).1
      | [], _, h => exact Bool.noConfusion (show false = true from h)
      | _ :: _ :: _, _, h => exact Bool.noConfusion (show false = true from h)
      | [_], [], h => exact Bool.noConfusion (show false = true from h)
      | [_], _ :: _ :: _, h => exact Bool.noConfusion (show false = true from h)
    · rename_i x y pos
      have h : (decide (op = .ix) && plIx y && agE P N a sc x && agE P N b sc y) = true := h
      obtain ⟨h1, h4⟩ := and2 h
      obtain ⟨h1, h3⟩ := and2 h1
      obtain ⟨h1, h2⟩ := and2 h1
      have eo := of_decide_eq_true h1
      subst eo
      exact snd_val (PE.to (pe_ix ix_seq (snd_E a O h3).1 (snd_E b O h4).1 (plix_rd h2)) fun σ H Q q => re_two q) (fun _ => rfl) (fun o vs p z => by cases z) (pl_of fun x p z => by cases z)
  | .una op a, k, sc, X, e, O, h => by
    cases e <;> first | exact Bool.noConfusion (show false = true from h) | skip
    · rename_i o x pos
      cases o <;> first | exact Bool.noConfusion (show false = true from h) | skip
      · have h : (decide (op = .not_) && agE P N a sc x) = true := h
        obtain ⟨h1, h2⟩ := and2 h
        have eo := of_decide_eq_true h1
        subst eo
        have ha := snd_E a O h2
        exact ⟨re_not ha.1, PT.to (pt_not ha.2.1) fun σ H Q q => rt_not q, (fun o vs p z => by cases z), pl_of fun x p z => by cases z⟩
      · have h : (decide (op = .neg) && agE P N a sc x) = true := h
        obtain ⟨h1, h2⟩ := and2 h
        have eo := of_decide_eq_true h1
        subst eo
        exact snd_val (re_neg (snd_E a O h2).1) (fun _ => rfl) (fun o vs p z => by cases z) (pl_of fun x p z => by cases z)
    · rename_i x os ys pos
      match os, ys, h with
      | [.Is], [.Constant .none j p'], h =>
        have h : (decide (op = .isN) && agE P N a sc x) = true := h
        obtain ⟨h1, h2⟩ := and2 h
        have eo := of_decide_eq_true h1
        subst eo
        have ha := snd_E a O h2
        refine ⟨re_isN ha.1, ?_, (fun o vs p z => by cases z), pl_of fun x p z => by cases z⟩
        refine PT.to (pt_cmp (pc_isN ha.1)) fun σ H Q q => ?_
        obtain ⟨S0, S, sl, rfl, f, q⟩ := RT.of q
        unfold evalE at q
        refine RE.mk f q.bind fun r S1 v e1 o1 h1 rv => ?_
        cases r with
        | val d => exact Wp.pure o1 h1 _ (by unfold RVRep Rep; rw [non_iff rv])
        | _ => exact h1.elim
      | [.IsNot], [.Constant .none j p'], h =>
        have h : (decide (op = .notN) && agE P N a sc x) = true := h
        obtain ⟨h1, h2⟩ := and2 h
        have eo := of_decide_eq_true h1
        subst eo
        have ha := snd_E a O h2
        refine ⟨re_notN ha.1, ?_, (fun o vs p z => by cases z), pl_of fun x p z => by cases z⟩
        refine PT.to (pt_cmp (pc_notN ha.1)) fun σ H Q q => ?_
        obtain ⟨S0, S, sl, rfl, f, q⟩ := RT.of q
        unfold evalE at q
        refine RE.mk f q.bind fun r S1 v e1 o1 h1 rv => ?_
        cases r with
        | val d => exact Wp.pure o1 h1 _ (by unfold RVRep Rep; rw [non_iff rv])
        | _ => exact h1.elim
  | .chn o1 o2 a b c, k, sc, X, e, O, h => by
    cases e <;> first | exact Bool.noConfusion (show false = true from h) | skip
    rename_i x os ys pos
    match os, ys, h with
    | [p, q], [y, z], h =>
      have h : (decide (opC o1 = some p) && decide (opC o2 = some q) && notSet z && agE P N a sc x && agE P N b sc y && agE P N c sc z) = true := h
      obtain ⟨h, h6⟩ := and2 h
      obtain ⟨h, h5⟩ := and2 h
      obtain ⟨h, h4⟩ := and2 h
      obtain ⟨h, h3⟩ := and2 h
      obtain ⟨h1, h2⟩ := and2 h
      have ha := (snd_E a O h4).1
      have hb := (snd_E b O h5).1
      have hc := (snd_E c O h6).1
      have hm : lastMarks [p, q] [y, z] = false := notset_rd h3 q
      have r1 := opr_c (X := X) O.hu (of_decide_eq_true h1)
      have r2 := opr_c (X := X) O.hu (of_decide_eq_true h2)
      exact ⟨PE.to (pe_chain r1 r2 ha hb hc hm) fun σ H Q q => re_chn q, PT.to (pt_chain r1 r2 ha hb hc hm) fun σ H Q q => re_chn (RT.of q), (fun o vs p z => by cases z), pl_of fun x p z => by cases z⟩
  | .and_ a b, k, sc, X, e, O, h => by
    cases e <;> first | exact Bool.noConfusion (show false = true from h) | skip
    rename_i o vs pos
    cases o <;> first | exact Bool.noConfusion (show false = true from h) | skip
    match vs, h with
    | [x, y], h =>
      have h : (agE P N a sc x && agE P N b sc y) = true := h
      obtain ⟨h1, h2⟩ := and2 h
      have ha := snd_E a O h1
      have hb := snd_E b O h2
      have pw : PW X (.BoolOp .And [x, y] pos) (RT X.K C (.and_ a b)) := PW.to (pw_and ha.2.1 (pw_and1 hb.2.1)) fun σ H Q q => rt_and q
      exact ⟨PE.to (pe_and ha.1 (pe_one hb.1)) fun σ H Q q => re_and q, pw.pt, (fun o vs p z => by cases z; exact pw), pl_of fun x p z => by cases z⟩
    | x :: y :: z :: r, h =>
      have h : (agE P N a sc x && agE P N b sc (.BoolOp .And (y :: z :: r) pos)) = true := h
      obtain ⟨h1, h2⟩ := and2 h
      have ha := snd_E a O h1
      have hb := snd_E b O h2
      have pw : PW X (.BoolOp .And (x :: y :: z :: r) pos) (RT X.K C (.and_ a b)) := PW.to (pw_and ha.2.1 (hb.2.2.1 _ _ _ rfl)) fun σ H Q q => rt_and q
      exact ⟨PE.to (pe_and ha.1 hb.1) fun σ H Q q => re_and q, pw.pt, (fun o vs p z => by cases z; exact pw), pl_of fun x p z => by cases z⟩
    | [], h => exact Bool.noConfusion (show false = true from h)
    | [_], h => exact Bool.noConfusion (show false = true from h)
  | .or_ a b, k, sc, X, e, O, h => by
    cases e <;> first | exact Bool.noConfusion (show false = true from h) | skip
    rename_i o vs pos
    cases o <;> first | exact Bool.noConfusion (show false = true from h) | skip
    match vs, h with
    | [x, y], h =>
      have h : (agE P N a sc x && agE P N b sc y) = true := h
      obtain ⟨h1, h2⟩ := and2 h
      have ha := snd_E a O h1
      have hb := snd_E b O h2
      have pw : PW X (.BoolOp .Or [x, y] pos) (RT X.K C (.or_ a b)) := PW.to (pw_or ha.2.1 (pw_or1 hb.2.1)) fun σ H Q q => rt_or q
      exact ⟨PE.to (pe_or ha.1 (pe_one hb.1)) fun σ H Q q => re_or q, pw.pt, (fun o vs p z => by cases z; exact pw), pl_of fun x p z => by cases z⟩
    | x :: y :: z :: r, h =>
      have h : (agE P N a sc x && agE P N b sc (.BoolOp .Or (y :: z :: r) pos)) = true := h
      obtain ⟨h1, h2⟩ := and2 h
      have ha := snd_E a O h1
      have hb := snd_E b O h2
      have pw : PW X (.BoolOp .Or (x :: y :: z :: r) pos) (RT X.K C (.or_ a b)) := PW.to (pw_or ha.2.1 (hb.2.2.1 _ _ _ rfl)) fun σ H Q q => rt_or q
      exact ⟨PE.to (pe_or ha.1 hb.1) fun σ H Q q => re_or q, pw.pt, (fun o vs p z => by cases z; exact pw), pl_of fun x p z => by cases z⟩
    | [], h => exact Bool.noConfusion (show false = true from h)
    | [_], h => exact Bool.noConfusion (show false = true from h)
  | .ite c a b, k, sc, X, e, O, h => by
    cases e <;> first | exact Bool.noConfusion (show false = true from h) | skip
    rename_i x y z pos
    have h : (agE P N c sc x && agE P N a sc y && agE P N b sc z) = true := h
    obtain ⟨h, h3⟩ := and2 h
    obtain ⟨h1, h2⟩ := and2 h
    have hp : PE X (.IfExp x y z pos) (RE X.K C (.ite c a b)) := PE.to (pe_ifExp (snd_E c O h1).2.1 (snd_E a O h2).1 (snd_E b O h3).1) fun σ H Q q => re_ite q
    refine ⟨hp, ⟨fun pins s σ H Q I q => ?_⟩, (fun o vs p z => by cases z), pl_of fun x p z => by cases z⟩
    have q' := rt_ite q
    show wpAny _ _ (do if ← isTrue x X.env (eval x X.env) then isTrue y X.env (eval y X.env) else isTrue z X.env (eval z X.env)) _ _ _
    refine wpAny_bind (thn ((snd_E c O h1).2.1.run pins s σ H _ I q') fun k s1 ⟨H1, I1, q1⟩ => ?_)
    cases k with
    | true => exact (snd_E a O h2).2.1.run pins s1 σ H1 Q I1 q1
    | false => exact (snd_E b O h3).2.1.run pins s1 σ H1 Q I1 q1
  | .lst es, k, sc, X, e, O, h => by
    cases e <;> first | exact Bool.noConfusion (show false = true from h) | skip
    exact snd_val (re_lst (snd_Es es O h).2.1) (fun _ => rfl) (fun o vs p z => by cases z) (pl_of fun x p z => by cases z)
  | .tup es, k, sc, X, e, O, h => by
    cases e <;> first | exact Bool.noConfusion (show false = true from h) | skip
    exact snd_val (re_tup (snd_Es es O h).2.1) (fun _ => rfl) (fun o vs p z => by cases z) (pl_of fun x p z => by cases z)
  | .cut a lo hi, k, sc, X, e, O, h => by
    cases e <;> first | exact Bool.noConfusion (show false = true from h) | skip
    rename_i x s pos
    cases s <;> first | exact Bool.noConfusion (show false = true from h) | skip
    rename_i l u st p2
    cases st <;> first | exact Bool.noConfusion (show false = true from h) | skip
    have h : (agE P N a sc x && agO P N lo sc l && agO P N hi sc u) = true := h
    obtain ⟨h, h3⟩ := and2 h
    obtain ⟨h1, h2⟩ := and2 h
    exact snd_val (re_cut (snd_E a O h1).1 (snd_O lo O h2) (snd_O hi O h3)) (fun _ => rfl) (fun o vs p z => by cases z) (pl_of fun x p z => by cases z)
  | .blt f es, k, sc, X, e, O, h => by
    cases e <;> first | exact Bool.noConfusion (show false = true from h) | skip
    rename_i fe xs kws pos
    cases fe <;> first | exact Bool.noConfusion (show false = true from h) | skip
    rename_i nm p1
    cases kws <;> first | exact Bool.noConfusion (show false = true from h) | skip
    have ordinary : (∀ cs, f ≠ .isi cs) → (decide (nm = bltName f) && glB sc (bltName f) && !xs.isEmpty && agEs P N es sc xs) = true → Snd C X (.Call (.Name nm p1) xs [] pos) (.blt f es) := fun hf h => by
      obtain ⟨h, h4⟩ := and2 h
      obtain ⟨h, h3⟩ := and2 h
      obtain ⟨h1, h2⟩ := and2 h
      have en := of_decide_eq_true h1
      subst en
      obtain ⟨r1, r2, r3, _⟩ := snd_Es es O h4
      cases xs with
      | nil => exact Bool.noConfusion (show false = true from h3)
      | cons x ys => exact snd_val (re_bltF hf O.hc (O.gl h2).1 (O.hm _ (bltName_mem f)) r3 r1) (fun _ => rfl) (fun o vs p z => by cases z) (pl_of fun x p z => by cases z)
    cases f with
    | isi cs =>
      match xs, h with
      | [x, c], h =>
        have h : (decide (nm = "isinstance") && glB sc "isinstance" && (agEs P N es sc [x] && clsB cs c && clsG sc cs)) = true := h
        obtain ⟨h, h3⟩ := and2 h
        obtain ⟨h1, h2⟩ := and2 h
        obtain ⟨h3, h5⟩ := and2 h3
        obtain ⟨h3, h4⟩ := and2 h3
        have en := of_decide_eq_true h1
        subst en
        have hg := (O.gl h2).1
        have hm : X.mg "isinstance" = none := O.hm _ (by decide +kernel)
        have hcl : ∀ c ∈ cs, Gl X (clsNm c) ∧ X.mg (clsNm c) = none := fun c hc => ⟨(O.gl (List.all_eq_true.mp h5 c hc)).1, O.hm _ (clsNm_mem c)⟩
        match es, h3 with
        | .cons a .nil, h3 =>
          have h3 : (agE P N a sc x && true) = true := h3
          have ha := snd_E a O (and2 h3).1
          refine snd_val ?_ (fun _ => rfl) (fun o vs p z => by cases z) (pl_of fun x p z => by cases z)
          unfold clsB at h4
          split at h4
          · rw [of_decide_eq_true h4]
            exact re_isi1 hg hm (hcl _ (List.mem_singleton.mpr rfl)).1 (hcl _ (List.mem_singleton.mpr rfl)).2 ha.2.2.2 ha.1
          · obtain ⟨h4, h6⟩ := and2 h4
            obtain ⟨h4, h7⟩ := and2 h4
            exact re_isiT hg hm (of_decide_eq_true h4) (isi_names (sc := sc) (of_decide_eq_true h4) h6) hcl (of_decide_eq_true h7) ha.2.2.2 ha.1
          · exact Bool.noConfusion (show false = true from h4)
        | .nil, h3 => exact Bool.noConfusion (show false = true from h3)
        | .cons a (.cons b r), h3 => exact Bool.noConfusion (show false = true from (and2 (show (agE P N a sc x && false) = true from h3)).2)
      | [], h => exact Bool.noConfusion (show false = true from (and2 h).2)
      | [_], h => exact Bool.noConfusion (show false = true from (and2 h).2)
      | _ :: _ :: _ :: _, h => exact Bool.noConfusion (show false = true from (and2 h).2)
    | len => exact ordinary (fun cs z => by cases z) h
    | abs => exact ordinary (fun cs z => by cases z) h
    | min2 => exact ordinary (fun cs z => by cases z) h
    | max2 => exact ordinary (fun cs z => by cases z) h
    | minL => exact ordinary (fun cs z => by cases z) h
    | maxL => exact ordinary (fun cs z => by cases z) h
    | sumL => exact ordinary (fun cs z => by cases z) h
    | list_ => exact ordinary (fun cs z => by cases z) h
    | tuple_ => exact ordinary (fun cs z => by cases z) h
    | all_ => exact ordinary (fun cs z => by cases z) h
    | int_ => exact ordinary (fun cs z => by cases z) h
    | str_ => exact ordinary (fun cs z => by cases z) h
  | .call g es, k, sc, X, e, O, h => by
    cases e <;> first | exact Bool.noConfusion (show false = true from h) | skip
    rename_i fe xs kws pos
    cases fe <;> first | exact Bool.noConfusion (show false = true from h) | skip
    rename_i nm p1
    cases kws <;> first | exact Bool.noConfusion (show false = true from h) | skip
    have h : (decide ((P.fns[g]?).map (·.1) = some nm) && glB sc nm && agEs P N es sc xs) = true := h
    obtain ⟨h, h3⟩ := and2 h
    obtain ⟨h1, h2⟩ := and2 h
    have h1 := of_decide_eq_true h1
    obtain ⟨hg, hd⟩ := O.gl h2
    obtain ⟨r1, r2, r3, r4⟩ := snd_Es es O h3
    cases q : P.fns[g]? with
    | none => rw [q] at h1; cases h1
    | some pr =>
      rw [q] at h1
      have en : pr.1 = nm := by injection h1
      subst en
      obtain ⟨f, fd, ps, q1, q2, q3, q4⟩ := O.hf g pr q
      exact snd_val (re_call (CX := CX0) (O.hb g) q4 O.hr hg q1 q2 q3 hd r3 r4 r2) (fun _ => rfl) (fun o vs p z => by cases z) (pl_of fun x p z => by cases z)
  | .cmp el tg it c ws, k, sc, X, e, O, h => by
    cases e <;> first | exact Bool.noConfusion (show false = true from h) | skip
    rename_i x gs sc2 pos
    match gs, h with
    | [⟨t, i, ifs, 0⟩], h =>
      have h : (blkC N sc sc2 (ownOfN N ws) && (tg.all fun i => ws.contains i) && notSet i && agI P N it sc i (isTup t) && tgB N sc2 tg t && agC P N c sc2 ifs && agE P N el sc2 x) = true := h
      obtain ⟨h, h7⟩ := and2 h
      obtain ⟨h, h6⟩ := and2 h
      obtain ⟨h, h5⟩ := and2 h
      obtain ⟨h, h4⟩ := and2 h
      obtain ⟨h, h3⟩ := and2 h
      obtain ⟨h1, h2⟩ := and2 h
      have hb : BlkOk X.N X.env.scope sc2 (ownOfN N ws) := O.blkOk h1
      have hw : (ownOfN N ws).map (·.2) = ws := by
        unfold ownOfN; rw [List.map_map]; exact List.map_id ws
      have hp := pe_lc (pos := pos) (g := gTg X.K tg) (tt := RC X.K C c) (te := RD X.K C el) O.hc (by rw [O.hN]; exact O.nd) (snd_I it O h4) hb (fun s H Ca cl fp => tg_rd (O.blk s H Ca cl fp) tg t h5) (fun s H Ca cl fp => snd_C c (O.blk s H Ca cl fp) h6) (fun s H Ca cl fp => RE.pd (snd_E el (O.blk s H Ca cl fp) h7).1) (fold_rd h3 _)
      rw [hw] at hp
      exact snd_val (PE.to hp fun σ H Q q => cmp_rd (fun i hi => by simpa using List.all_eq_true.mp h2 i hi) q) (fun _ => rfl) (fun o vs p z => by cases z) (pl_of fun x p z => by cases z)
theorem snd_Es : ∀ (m : MEs) {k : Nat} {sc : Scope} {X : Cx} {es : List Expr}, XOk P C k N sc X → agEs P N m sc es = true → PA X es (REs X.K C m) ∧ PA X es (RDs X.K C m) ∧ PlainL es ∧ (es = [] → m = .nil)
  | .nil, k, sc, X, es, O, h => by
    match es, h with
    | [], _ => exact ⟨res_nil, rds_nil, fun e h => by simp at h, fun _ => rfl⟩
  | .cons a r, k, sc, X, es, O, h => by
    match es, h with
    | x :: ys, h =>
      have h : (agE P N a sc x && agEs P N r sc ys) = true := h
      obtain ⟨h1, h2⟩ := and2 h
      have ha := snd_E a O h1
      obtain ⟨r1, r2, r3, _⟩ := snd_Es r O h2
      refine ⟨res_cons ha.2.2.2 ha.1 r1, rds_cons ha.2.2.2 (RE.pd ha.1) r2, fun e he => ?_, fun z => by cases z⟩
      rcases List.mem_cons.mp he with rfl | he
      · exact ha.2.2.2
      · exact r3 e he
theorem snd_O : ∀ (m : MO) {k : Nat} {sc : Scope} {X : Cx} {o : Option Expr}, XOk P C k N sc X → agO P N m sc o = true → PO X o (RO X.K C m)
  | .no, k, sc, X, o, O, h => by
    match o, h with
    | none, _ => exact ro_no
  | .yes a, k, sc, X, o, O, h => by
    match o, h with
    | some x, h => exact ro_yes (snd_E a O h).1
theorem snd_C : ∀ (m : MO) {k : Nat} {sc : Scope} {X : Cx} {o : List Expr}, XOk P C k N sc X → agC P N m sc o = true → PTs X o (RC X.K C m)
  | .no, k, sc, X, o, O, h => by
    match o, h with
    | [], _ =>
      refine PTs.to pts_nil fun σ H Q q => ?_
      obtain ⟨S0, S, sl, rfl, f, q⟩ := q
      unfold evalC at q
      exact Wp.pure f.ok q
  | .yes a, k, sc, X, o, O, h => by
    match o, h with
    | [x], h =>
      refine PTs.to (pts_one (snd_E a O h).2.1) fun σ H Q q => ?_
      obtain ⟨S0, S, sl, rfl, f, q⟩ := q
      unfold evalC at q
      exact ⟨S0, S, sl, rfl, f, q⟩
    | [], h => exact Bool.noConfusion (show false = true from h)
    | _ :: _ :: _, h => exact Bool.noConfusion (show false = true from h)
theorem snd_I : ∀ (m : MI) {k : Nat} {sc : Scope} {X : Cx} {e tg : Expr}, XOk P C k N sc X → agI P N m sc e (isTup tg) = true → PI X tg e (RI X.K C m)
  | .seq a, k, sc, X, e, tg, O, h => ri_seq (snd_E a O h).1
  | .rng1 a, k, sc, X, e, tg, O, h => by
    cases e <;> first | exact Bool.noConfusion (show false = true from h) | skip
    rename_i fe xs kws pos
    cases fe <;> first | exact Bool.noConfusion (show false = true from h) | skip
    rename_i nm p1
    match xs, kws, h with
    | [x], [], h =>
      have h : (decide (nm = "range") && glB sc "range" && agE P N a sc x) = true := h
      obtain ⟨h, h3⟩ := and2 h
      obtain ⟨h1, h2⟩ := and2 h
      have en := of_decide_eq_true h1
      subst en
      have ha := snd_E a O h3
      exact ri_rng1 (O.gl h2).1 (O.hm _ rng_mem) ha.2.2.2 ha.1
  | .rng2 a b, k, sc, X, e, tg, O, h => by
    cases e <;> first | exact Bool.noConfusion (show false = true from h) | skip
    rename_i fe xs kws pos
    cases fe <;> first | exact Bool.noConfusion (show false = true from h) | skip
    rename_i nm p1
    match xs, kws, h with
    | [x, y], [], h =>
      have h : (decide (nm = "range") && glB sc "range" && agE P N a sc x && agE P N b sc y) = true := h
      obtain ⟨h, h4⟩ := and2 h
      obtain ⟨h, h3⟩ := and2 h
      obtain ⟨h1, h2⟩ := and2 h
      have en := of_decide_eq_true h1
      subst en
      have ha := snd_E a O h3
      have hb := snd_E b O h4
      exact ri_rng2 (O.gl h2).1 (O.hm _ rng_mem) ha.2.2.2 hb.2.2.2 ha.1 hb.1
  | .rng3 a b c, k, sc, X, e, tg, O, h => by
    cases e <;> first | exact Bool.noConfusion (show false = true from h) | skip
    rename_i fe xs kws pos
    cases fe <;> first | exact Bool.noConfusion (show false = true from h) | skip
    rename_i nm p1
    match xs, kws, h with
    | [x, y, z], [], h =>
      have h : (decide (nm = "range") && glB sc "range" && agE P N a sc x && agE P N b sc y && agE P N c sc z) = true := h
      obtain ⟨h, h5⟩ := and2 h
      obtain ⟨h, h4⟩ := and2 h
      obtain ⟨h, h3⟩ := and2 h
      obtain ⟨h1, h2⟩ := and2 h
      have en := of_decide_eq_true h1
      subst en
      have ha := snd_E a O h3
      have hb := snd_E b O h4
      have hc := snd_E c O h5
      exact ri_rng3 (O.gl h2).1 (O.hm _ rng_mem) ha.2.2.2 hb.2.2.2 hc.2.2.2 ha.1 hb.1 hc.1
  | .enum a, k, sc, X, e, tg, O, h => by
    obtain ⟨h0, h5⟩ := and2 (show (isTup tg && _) = true from h)
    clear h
    cases tg <;> first | exact Bool.noConfusion (show false = true from h0) | skip
    clear h0
    have h := h5
    clear h5
    cases e <;> first | exact Bool.noConfusion (show false = true from h) | skip
    rename_i fe xs kws pos
    cases fe <;> first | exact Bool.noConfusion (show false = true from h) | skip
    rename_i nm p1
    match xs, kws, h with
    | [x], [], h =>
      have h : (decide (nm = "enumerate") && glB sc "enumerate" && agE P N a sc x) = true := h
      obtain ⟨h, h3⟩ := and2 h
      obtain ⟨h1, h2⟩ := and2 h
      have en := of_decide_eq_true h1
      subst en
      have ha := snd_E a O h3
      exact ri_enum (O.gl h2).1 (O.hm _ enm_mem) ha.2.2.2 ha.1
  | .zip a b, k, sc, X, e, tg, O, h => by
    obtain ⟨h0, h5⟩ := and2 (show (isTup tg && _) = true from h)
    clear h
    cases tg <;> first | exact Bool.noConfusion (show false = true from h0) | skip
    clear h0
    have h := h5
    clear h5
    cases e <;> first | exact Bool.noConfusion (show false = true from h) | skip
    rename_i fe xs kws pos
    cases fe <;> first | exact Bool.noConfusion (show false = true from h) | skip
    rename_i nm p1
    match xs, kws, h with
    | [x, y], [], h =>
      have h : (decide (nm = "zip") && glB sc "zip" && agE P N a sc x && agE P N b sc y) = true := h
      obtain ⟨h, h4⟩ := and2 h
      obtain ⟨h, h3⟩ := and2 h
      obtain ⟨h1, h2⟩ := and2 h
      have en := of_decide_eq_true h1
      subst en
      have ha := snd_E a O h3
      have hb := snd_E b O h4
      exact ri_zip (O.gl h2).1 (O.hm _ zip_mem) ha.2.2.2 hb.2.2.2 ha.1 hb.1
end
end Wb

set_option maxHeartbeats 8000000
/-! Statements and defs of the small text against the row's text. -/
namespace Wb
open PySem PySem.Spec L2
def isComp : Expr → Bool
  | .ListComp .. => true | .SetComp .. => true | .DictComp .. => true | _ => false
def locB (N : List Str) (sc : Scope) (i : Nat) (x : Str) : Bool := decide (N[i]? = some x) && (match sc.names.lookup x with | some .local => true | some .cell => true | _ => false)
def lclB (N : List Str) (sc : Scope) (i : Nat) (x : Str) : Bool := decide (N[i]? = some x) && decide (sc.names.lookup x = some .local)
/-- a comprehension that is used up by the store to a name -/
def usedB (sc : Scope) (x : Str) (p : Pos) : Expr → Bool
  | .ListComp _ _ s vp => decide (sc.names.lookup x = some .local) && (p.line == vp.line) && !(s.names.any fun (n, k) => n == x && (k == .local || k == .cell))
  | _ => false
def isLc : Expr → Bool
  | .ListComp .. => true | _ => false
def methN : LMo → Str
  | .append => "append" | .insert0 => "insert" | .pop => "pop" | .clear => "clear"
def notCall : Expr → Bool
  | .Call .. => false | _ => true
def swapA (us : List Expr) : Bool := us.all (foldedForSure 8)
def swapC (us : List Expr) : Bool := us.all (constantsAlone 8)
def nst : Expr → Bool
  | .Starred .. => false | _ => true
def tupOk : Expr → Bool
  | .Tuple us _ _ => swapA us | _ => true
def isCmp : ME → Bool
  | .cmp .. => true | _ => false
mutual
def agS (P : Pr) (N : List Str) (sc : Scope) : MS → Stmt → Bool
  | .set i e, st => match st with
    | .Assign [.Name x p] v _ => locB N sc i x && agE P N e sc v && (!isComp v || (isLc v && isCmp e)) | _ => false
  | .own i e, st => match st with
    | .Assign [.Name x p] v _ => locB N sc i x && agE P N e sc v && (!isComp v || (isLc v && isCmp e)) | _ => false
  | .heap i e, st => match st with
    | .Assign [.Name x p] v _ => locB N sc i x && agE P N e sc v && (!isComp v || (isLc v && isCmp e)) | _ => false
  | .par tg e, st => match st with
    | .Assign [t] v _ => tgB N sc tg t && isTup t && agE P N e sc v && tupOk v | _ => false
  | .par2 i j a b, st => match st with
    | .Assign [.Tuple [.Name x px, .Name y py] _ _] (.Tuple [u, v] _ _) _ => lclB N sc i x && lclB N sc j y && decide (i ≠ j) && decide (x ≠ y) && (py.line == px.line) && nst u && nst v && !swapA [u, v] && !swapC [u, v] && agE P N a sc u && agE P N b sc v
    | _ => false
  | .par3 i j k a b c, st => match st with
    | .Assign [.Tuple [.Name x px, .Name y py, .Name z pz] _ _] (.Tuple [u, v, w] _ _) _ => lclB N sc i x && lclB N sc j y && lclB N sc k z && decide (i ≠ j) && decide (i ≠ k) && decide (j ≠ k) && decide (x ≠ y) && decide (x ≠ z) && decide (y ≠ z) && (py.line == px.line) && (pz.line == px.line) &&
        nst u && nst v && nst w && !swapA [u, v, w] && !swapC [u, v, w] && agE P N a sc u && agE P N b sc v && agE P N c sc w
    | _ => false
  | .aug i op e, st => match st with
    | .AugAssign (.Name x p) o v _ => locB N sc i x && decide (opA op = some o) && decide (op ≠ .pow) && agE P N e sc v | _ => false
  | .meth i m xs, st => match st with
    | .Expr (.Call (.Attribute (.Name x p) nm ap) args [] cp) _ => nmB N sc i x && decide (nm = methN m) && (ap.endLine == cp.line) && (match m, args with
      | .append, [v] => agEs P N xs sc [v]
      | .insert0, [.Constant (.int 0) _ _, v] => agEs P N xs sc [v]
      | .pop, [] => agEs P N xs sc []
      | .clear, [] => agEs P N xs sc []
      | _, _ => false)
    | _ => false
  | .setIx i k e, st => match st with
    | .Assign [.Subscript (.Name x p) kk _] v _ => nmB N sc i x && plIx kk && agE P N k sc kk && agE P N e sc v | _ => false
  | .setHx o k e, st => match st with
    | .Assign [.Subscript oo kk _] v _ => agE P N o sc oo && plIx kk && agE P N k sc kk && agE P N e sc v | _ => false
  | .hmeth o m xs, st => match st with
    | .Expr (.Call (.Attribute oo nm ap) args [] cp) _ => notCall oo && agE P N o sc oo && decide (nm = methN m) && (ap.endLine == cp.line) && (match m, args with
      | .append, [v] => agEs P N xs sc [v]
      | .insert0, [.Constant (.int 0) _ _, v] => agEs P N xs sc [v]
      | .pop, [] => agEs P N xs sc []
      | .clear, [] => agEs P N xs sc []
      | _, _ => false)
    | _ => false
  | .expr e, st => match st with | .Expr v _ => !isComp v && agE P N e sc v | _ => false
  | .ret e, st => match st with | .Return (some v) _ => agE P N e sc v | _ => false
  | .retN, st => match st with | .Return none _ => true | _ => false
  | .iff c a b, st => match st with | .If t x y _ => agE P N c sc t && agB P N sc a x && agB P N sc b y | _ => false
  | .whl c b, st => match st with | .While t x [] _ => agE P N c sc t && agB P N sc b x | _ => false
  | .for_ tg it b, st => match st with | .For t i x [] _ => notSet i && agI P N it sc i (isTup t) && tgB N sc tg t && agB P N sc b x | _ => false
  | .pass, st => match st with | .Pass _ => true | _ => false
  | .brk, st => match st with | .Break _ => true | _ => false
  | .cnt, st => match st with | .Continue _ => true | _ => false
  | .frz _, _ => false
def agB (P : Pr) (N : List Str) (sc : Scope) : MSs → List Stmt → Bool
  | .nil, sts => sts.isEmpty
  | .cons s r, sts => match s with
    | .frz _ => agB P N sc r sts
    | s => match sts with | st :: rest => agS P N sc s st && agB P N sc r rest | [] => false
end
structure SOk (P : Pr) (C : Callee) (k : Nat) (N : List Str) (sc : Scope) (X : Cx) : Prop where
  o : XOk P C k N sc X
  sc_ : X.env.scope = sc
  kd : sc.kind = .function
  pa : PassesOwn (model X.prog X.w) X.A X.env X.xe
  fnT : ∀ x, X.fn x = true
variable {P : Pr} {C : Callee} {k : Nat} {N : List Str} {sc : Scope} {X : Cx} {K : PySem.W.Frag} {S S' S0 S1 S2 : Wd} {sl : Wb.Sl} {σ : L2.St}
theorem loc_rd (O : SOk P C k N sc X) {i : Nat} {x : Str} (h : locB N sc i x = true) : X.N[i]? = some x ∧ L2.Loc X.env.scope x := by
  unfold locB at h
  obtain ⟨h1, h2⟩ := and2 h
  refine ⟨by rw [O.o.hN]; exact of_decide_eq_true h1, ?_⟩
  unfold L2.Loc
  rw [O.sc_]
  split at h2
  · exact .inl (by assumption)
  · exact .inr (by assumption)
  · cases h2
theorem lcl_rd (O : SOk P C k N sc X) {i : Nat} {x : Str} (h : lclB N sc i x = true) : X.N[i]? = some x ∧ X.env.scope.names.lookup x = some .local := by
  unfold lclB at h
  obtain ⟨h1, h2⟩ := and2 h
  exact ⟨by rw [O.o.hN]; exact of_decide_eq_true h1, by rw [O.sc_]; exact of_decide_eq_true h2⟩
theorem sw_no {v : Expr} (h : isComp v = false) (t : Option Expr) (l : Nat) (env : Env) : swapsWith v t l env = pure false := by
  cases v <;> first | rfl | exact Bool.noConfusion (show true = false from h)
theorem sw_sub {v o i : Expr} {p : Pos} (l : Nat) (env : Env) : swapsWith v (some (.Subscript o i p)) l env = pure false := by
  cases v <;> rfl
theorem sw_tup {v : Expr} {es : List Expr} {k : Nat} {p : Pos} (l : Nat) (env : Env) : swapsWith v (some (.Tuple es k p)) l env = pure false := by
  cases v <;> rfl
theorem used_yes (O : SOk P C k N sc X) {v : Expr} {x : Str} {p : Pos} {l : Nat} (h : usedB sc x p v = true) : swapsWith v (some (.Name x p)) l X.env = pure true := by
  cases v <;> first | exact Bool.noConfusion (show false = true from h) | skip
  rename_i elt gs s vp
  have h : (decide (sc.names.lookup x = some .local) && (p.line == vp.line) && !(s.names.any fun (n, k) => n == x && (k == .local || k == .cell))) = true := h
  obtain ⟨h, h3⟩ := and2 h
  obtain ⟨h1, h2⟩ := and2 h
  exact sw_true (by rw [O.sc_]; exact O.kd) (by rw [O.sc_]; exact of_decide_eq_true h1) h2 (by simpa using h3)
theorem used_no (O : SOk P C k N sc X) {v : Expr} {x : Str} {p : Pos} {l : Nat} (h0 : isLc v = true) (h : usedB sc x p v = false) : swapsWith v (some (.Name x p)) l X.env = pure false := by
  cases v <;> first | exact Bool.noConfusion (show false = true from h0) | skip
  rename_i elt gs s vp
  have h : (decide (sc.names.lookup x = some .local) && (p.line == vp.line) && !(s.names.any fun (n, k) => n == x && (k == .local || k == .cell))) = false := h
  have hb : X.env.blockKind = .function := by unfold Env.blockKind; rw [O.sc_, O.kd]; rfl
  have hk : X.env.kindOf x = sc.names.lookup x := by unfold Env.kindOf; rw [O.sc_]
  unfold swapsWith
  simp only [hb, hk, Expr.pos]
  have e : (some NameKind.local == some NameKind.local) = true := rfl
  by_cases q : sc.names.lookup x = some .local
  · rw [decide_eq_true q, Bool.true_and] at h
    rw [q]
    show (pure (_ && _ && _ && _) : Sem Bool) = _
    rw [show (ScopeKind.function == ScopeKind.function) = true from rfl, e, Bool.true_and, Bool.true_and]
    rw [h]
  · have q2 : (sc.names.lookup x == some NameKind.local) = false := beq_eq_false_iff_ne.mpr q
    show (pure (_ && _ && _ && _) : Sem Bool) = _
    rw [q2, Bool.and_false, Bool.false_and, Bool.false_and]
theorem fnx (O : SOk P C k N sc X) (x : Str) : X.fn x = true ∨ X.env.scope.names.lookup x = some .local := .inl (O.fnT x)
theorem ndX (O : SOk P C k N sc X) : X.N.Nodup := by rw [O.o.hN]; exact O.o.nd
theorem lc_shape {v : Expr} (h : isLc v = true) : ∃ elt gs s vp, v = .ListComp elt gs s vp := by
  cases v <;> first | exact Bool.noConfusion (show false = true from h) | exact ⟨_, _, _, _, rfl⟩
theorem cmp_shape {e : ME} (h : isCmp e = true) : ∃ el tg it c ws, e = .cmp el tg it c ws := by
  cases e <;> first | exact Bool.noConfusion (show false = true from h) | exact ⟨_, _, _, _, _, rfl⟩
/-- name = value, in each of its forms -/
theorem asg_of (O : SOk P C k N sc X) {i : Nat} {e : ME} {x : Str} {p pos : Pos} {v : Expr} {t : TE} (h1 : locB N sc i x = true) (h2 : agE P N e sc v = true) (h3 : (!isComp v || (isLc v && isCmp e)) = true)
    (hp : PE X v (RE X.K C e) → PE X v t) (w : ∀ σ H Q, t σ H Q → RE X.K C e σ H Q) : PS X (.Assign [.Name x p] v pos) (tAsg t (gName i)) := by
  obtain ⟨hi, hl⟩ := loc_rd O h1
  have he := snd_E e O.o h2
  by_cases hc : isComp v = false
  · exact ps_set (ndX O) hi hl (hp he.1) (sw_no hc _ _ _) (fnx O x)
  · have hc : isComp v = true := by simpa using hc
    rw [hc, Bool.not_true, Bool.false_or] at h3
    obtain ⟨h3a, h4⟩ := and2 h3
    clear h3
    by_cases hu : usedB sc x p v = true
    · have hw := used_yes (l := pos.line) O hu
      obtain ⟨el, tg, it, c, ws, rfl⟩ := cmp_shape h4
      obtain ⟨elt, gs, sc2, vp, rfl⟩ := lc_shape h3a
      match gs, h2 with
      | [⟨t', i', ifs, 0⟩], h =>
        have h : (blkC N sc sc2 (ownOfN N ws) && (tg.all fun i => ws.contains i) && notSet i' && agI P N it sc i' (isTup t') && tgB N sc2 tg t' && agC P N c sc2 ifs && agE P N el sc2 elt) = true := h
        obtain ⟨h, h7⟩ := and2 h
        obtain ⟨h, h6⟩ := and2 h
        obtain ⟨h, h5⟩ := and2 h
        obtain ⟨h, h4⟩ := and2 h
        obtain ⟨h, h3⟩ := and2 h
        obtain ⟨h1', h2⟩ := and2 h
        have hb : BlkOk X.N X.env.scope sc2 (ownOfN N ws) := O.o.blkOk h1'
        have hww : (ownOfN N ws).map (·.2) = ws := by
          unfold ownOfN; rw [List.map_map]; exact List.map_id ws
        have hloc : X.env.scope.names.lookup x = some .local := by
          have hu : (decide (sc.names.lookup x = some .local) && (p.line == vp.line) && !(sc2.names.any fun (n, k) => n == x && (k == .local || k == .cell))) = true := hu
          rw [O.sc_]
          exact of_decide_eq_true (and2 (and2 hu).1).1
        have hq := ps_setLc (i := i) (y := x) (py := p) (spos := pos) (pos := vp) (g := gTg X.K tg) (tt := RC X.K C c) (te := RD X.K C el) O.o.hc (ndX O) hi hloc hw (snd_I it O.o h4) hb (fun s H Ca cl fp => tg_rd (O.o.blk s H Ca cl fp) tg t' h5) (fun s H Ca cl fp => snd_C c (O.o.blk s H Ca cl fp) h6) (fun s H Ca cl fp => RE.pd (snd_E el (O.o.blk s H Ca cl fp) h7).1) (fold_rd h3 _)
        rw [hww] at hq
        refine PS.to hq fun D σ H q => ?_
        have q : t σ H fun x H1 => gName i x σ H1 D.nx := q
        exact cmp_rd (fun i hi => by simpa using List.all_eq_true.mp h2 i hi) (w _ _ _ q)
    · exact ps_set (ndX O) hi hl (hp he.1) (used_no O h3a (by simpa using hu)) (fnx O x)

theorem pip_of {op : BinO} {o : Operator} (h : opA op = some o) (hp : op ≠ .pow) : PIp X o (relI X.K op) := by
  cases op <;> (first | (cases h; done) | skip) <;> (injection h with h; subst h)
  · exact iop_add
  · exact iop_sub
  · exact iop_mul
  · exact iop_fdivW
  · exact iop_mod
  · exact absurd rfl hp
  · exact iop_shl
  · exact iop_shr
  · exact iop_and
  · exact iop_or
  · exact iop_xor
theorem swap_none {ts us : List Expr} {k k2 : Nat} {p p2 : Pos} {env : Env} (h : swapA us = true) : swappedStores [.Tuple ts k p] (.Tuple us k2 p2) env = pure none := by
  unfold swappedStores
  unfold swapA at h
  dsimp only
  rw [h]
  split
  · rfl
  · split
    · rfl
    · split
      · rfl
      · rfl
theorem RE.mono {e : ME} {H : Hp} {Q Q' : VK} (h : RE K C e σ H Q) (w : ∀ v H', Q v H' → Q' v H') : RE K C e σ H Q' := by
  obtain ⟨S0, S, sl, rfl, f, h⟩ := h
  exact ⟨S0, S, sl, rfl, f, h.mono fun r S' _ _ q v rv => w _ _ (q v rv)⟩
theorem RD.mono {e : ME} {H : Hp} {Q Q' : VK} (h : RD K C e σ H Q) (w : ∀ v H', Q v H' → Q' v H') : RD K C e σ H Q' := by
  obtain ⟨S0, S, sl, rfl, f, h⟩ := h
  exact ⟨S0, S, sl, rfl, f, h.mono fun r S' _ _ q v rv => w _ _ (q v rv)⟩
theorem RDs.mono {e : MEs} {H : Hp} {Q Q' : List V → Hp → Prop} (h : RDs K C e σ H Q) (w : ∀ v H', Q v H' → Q' v H') : RDs K C e σ H Q' := by
  obtain ⟨S0, S, sl, rfl, f, h⟩ := h
  exact ⟨S0, S, sl, rfl, f, h.mono fun r S' _ _ q v rv => w _ _ (q v rv)⟩
/-- methods of a list by their form -/
theorem pe_meth_ {m : LMo} {xs : MEs} {o : Expr} {to : TE} {ap cp : Pos} {args : List Expr} (O : SOk P C k N sc X) (ho : PE X o to) (mo : ∀ σ H (Q Q' : VK), (∀ v H', Q v H' → Q' v H') → to σ H Q → to σ H Q')
    (hbase : ∀ nm, attributeBase o nm X.env (eval o X.env) = eval o X.env) (hl : (ap.endLine == cp.line) = true)
    (h : (match m, args with
      | .append, [v] => agEs P N xs sc [v]
      | .insert0, [.Constant (.int 0) _ _, v] => agEs P N xs sc [v]
      | .pop, [] => agEs P N xs sc []
      | .clear, [] => agEs P N xs sc []
      | _, _ => false) = true) :
    PE X (.Call (.Attribute o (methN m) ap) args [] cp) (fun σ H Q => to σ H fun x H1 => ∃ a, x = .ref a ∧ (∃ ws, SqL X.K H1 a ws) ∧ tArgs0 m (RDs X.K C xs) σ H1 fun vs H2 => relM m (.ref a) vs H2 Q) := by
  cases m with
  | append =>
    match args, h with
    | [v], h =>
      obtain ⟨_, r2, r3, _⟩ := snd_Es xs O.o h
      have pl := r3 v (by simp)
      refine PE.to (pe_bm PySem.F.plainAttrs_list PySem.F.slot_list_append PySem.F.type_list_append mt_append ho r2 (hbase _) (by rw [pl]; rfl) hl (pl _ _) rfl) fun σ H Q q => ?_
      exact mo _ _ _ _ (fun x H1 ⟨a, e, ⟨ws, hs⟩, q⟩ => by subst e; exact ⟨.inl ⟨rfl, ws, hs⟩, q⟩) q
    | [], h => exact Bool.noConfusion (show false = true from h)
    | _ :: _ :: _, h => exact Bool.noConfusion (show false = true from h)
  | insert0 =>
    match args, h with
    | [.Constant (.int 0) j p, v], h =>
      obtain ⟨_, r2, r3, _⟩ := snd_Es xs O.o h
      have pl := r3 v (by simp)
      have plc : Plain (.Constant (.int 0) j p) := fun _ _ => rfl
      refine PE.to (pe_bm PySem.F.plainAttrs_list PySem.F.slot_list_insert PySem.F.type_list_insert mt_insert ho (pa_cons pe_int r2 (plc _ _)) (hbase _) (by rw [plc, pl]; rfl) hl (plc _ _) (by rw [pl]; rfl)) fun σ H Q q => ?_
      refine mo _ _ _ _ (fun x H1 ⟨a, e, ⟨ws, hs⟩, q⟩ => ?_) q
      subst e
      refine ⟨.inl ⟨rfl, ws, hs⟩, ?_⟩
      show RDs X.K C xs σ H1 _
      refine RDs.mono q fun vs H2 z => ?_
      obtain ⟨l, ys, y, e1, e2, hx, hz, q⟩ := z
      refine ⟨l, ys, 0, y, e1, e2, hx, hz, by decide, by decide, ?_⟩
      simpa using q
  | pop =>
    match args, h with
    | [], h =>
      obtain ⟨_, r2, r3, r4⟩ := snd_Es xs O.o h
      have en := r4 rfl
      subst en
      refine PE.to (pe_bm0 PySem.F.plainAttrs_list PySem.F.slot_list_pop PySem.F.type_list_pop mt_pop ho (hbase _) hl) fun σ H Q q => ?_
      refine mo _ _ _ _ (fun x H1 ⟨a, e, ⟨ws, hs⟩, q⟩ => ?_) q
      subst e
      refine ⟨.inl ⟨rfl, ws, hs⟩, ?_⟩
      obtain ⟨S0, S, sl, rfl, f, q⟩ := q
      unfold evalDs at q
      exact Wp.pure f.ok q [] Reps.nil
  | clear =>
    match args, h with
    | [], h =>
      obtain ⟨_, r2, r3, r4⟩ := snd_Es xs O.o h
      have en := r4 rfl
      subst en
      refine PE.to (pe_bm0 PySem.F.plainAttrs_list PySem.F.slot_list_clear PySem.F.type_list_clear mt_clear ho (hbase _) hl) fun σ H Q q => ?_
      refine mo _ _ _ _ (fun x H1 ⟨a, e, ⟨ws, hs⟩, q⟩ => ?_) q
      subst e
      refine ⟨.inl ⟨rfl, ws, hs⟩, ?_⟩
      obtain ⟨S0, S, sl, rfl, f, q⟩ := q
      unfold evalDs at q
      exact Wp.pure f.ok q [] Reps.nil
theorem base_rd {o : Expr} (h : notCall o = true) (nm : Str) (env : Env) : attributeBase o nm env (eval o env) = eval o env := by
  cases o <;> first | rfl | exact Bool.noConfusion (show false = true from h)
theorem plix_ {o i : Expr} {p : Pos} {env : Env} (h : plIx i = true) : ∀ v : Value, PySem.assign (Expr.Subscript o i p) env v = (do
      let ov ← holding [v] (eval o env)
      let iv ← holding [v, ov] (eval i env)
      standAt p
      holding [v, ov, iv] (setItem ov iv v)
      release [v, ov, iv] []) := by
  cases i <;> first | (intro _; rfl) | exact Bool.noConfusion (show false = true from h)
theorem nst_ne {u : Expr} (h : nst u = true) : ∀ e p, u ≠ .Starred e p := fun e p z => by subst z; exact Bool.noConfusion (show false = true from h)
theorem swap2' (O : SOk P C k N sc X) {x y : Str} {px py pt p2 : Pos} {k1 k2 : Nat} {u v : Expr} (hx : X.env.scope.names.lookup x = some .local) (hy : X.env.scope.names.lookup y = some .local) (hne : x ≠ y) (hl : (py.line == px.line) = true)
    (n1 : nst u = true) (n2 : nst v = true) (ha : swapA [u, v] = false) (hc : swapC [u, v] = false) : swappedStores [.Tuple [.Name x px, .Name y py] k1 pt] (.Tuple [u, v] k2 p2) X.env = pure (some [x, y]) := by
  have hb : X.env.blockKind = .function := by unfold Env.blockKind; rw [O.sc_, O.kd]; rfl
  have kx : X.env.kindOf x = some .local := hx
  have ky : X.env.kindOf y = some .local := hy
  have hl2 : py.line = px.line := beq_iff_eq.mp hl
  have hne2 : y ≠ x := fun z => hne z.symm
  unfold swapA at ha
  unfold swapC at hc
  unfold swappedStores
  dsimp only
  rw [ha, hc]
  split
  · rename_i h; simp [hb] at h
  · split
    · rename_i h
      exfalso
      simp only [List.any_cons, List.any_nil, Bool.or_false, Bool.or_eq_true] at h
      rcases h with h | h
      · split at h
        · exact nst_ne n1 _ _ rfl
        · cases h
      · split at h
        · exact nst_ne n2 _ _ rfl
        · cases h
    · have b1 : (y == x) = false := beq_eq_false_iff_ne.mpr hne2
      simp [kx, ky, Expr.pos, hl2, b1, List.eraseDups, List.eraseDupsBy, List.eraseDupsBy.loop]
theorem swap3' (O : SOk P C k N sc X) {x y z : Str} {px py pz pt p2 : Pos} {k1 k2 : Nat} {u v w : Expr} (hx : X.env.scope.names.lookup x = some .local) (hy : X.env.scope.names.lookup y = some .local) (hz : X.env.scope.names.lookup z = some .local)
    (hne : x ≠ y) (hne3 : x ≠ z) (hne4 : y ≠ z) (hl : (py.line == px.line) = true) (hl' : (pz.line == px.line) = true)
    (n1 : nst u = true) (n2 : nst v = true) (n3 : nst w = true) (ha : swapA [u, v, w] = false) (hc : swapC [u, v, w] = false) : swappedStores [.Tuple [.Name x px, .Name y py, .Name z pz] k1 pt] (.Tuple [u, v, w] k2 p2) X.env = pure (some [x, y, z]) := by
  have hb : X.env.blockKind = .function := by unfold Env.blockKind; rw [O.sc_, O.kd]; rfl
  have kx : X.env.kindOf x = some .local := hx
  have ky : X.env.kindOf y = some .local := hy
  have kz : X.env.kindOf z = some .local := hz
  have hl2 : py.line = px.line := beq_iff_eq.mp hl
  have hl3 : pz.line = px.line := beq_iff_eq.mp hl'
  have hne2 : y ≠ x := fun z => hne z.symm
  have hne5 : z ≠ x := fun z => hne3 z.symm
  have hne6 : z ≠ y := fun z => hne4 z.symm
  unfold swapA at ha
  unfold swapC at hc
  unfold swappedStores
  dsimp only
  rw [ha, hc]
  split
  · rename_i h; simp [hb] at h
  · split
    · rename_i h
      exfalso
      simp only [List.any_cons, List.any_nil, Bool.or_false, Bool.or_eq_true] at h
      rcases h with h | h | h
      · split at h
        · exact nst_ne n1 _ _ rfl
        · cases h
      · split at h
        · exact nst_ne n2 _ _ rfl
        · cases h
      · split at h
        · exact nst_ne n3 _ _ rfl
        · cases h
    · have b1 : (y == x) = false := beq_eq_false_iff_ne.mpr hne2
      have b2 : (z == x) = false := beq_eq_false_iff_ne.mpr hne5
      have b3 : (z == y) = false := beq_eq_false_iff_ne.mpr hne6
      simp [kx, ky, kz, Expr.pos, hl2, hl3, b1, b2, b3, List.eraseDups, List.eraseDupsBy, List.eraseDupsBy.loop]

theorem pe_pv (O : SOk P C k N sc X) {i : Nat} {x : Str} {pos : Pos} (h : nmB N sc i x = true) : PE X (.Name x pos) (tVar i) := by
  unfold nmB at h
  simp only [Bool.and_eq_true, Bool.not_eq_true'] at h
  obtain ⟨⟨⟨h1, h2⟩, h3⟩, h4⟩ := h
  refine pe_var (by rw [O.o.hN]; exact of_decide_eq_true h1) ?_ h3 h4
  unfold Vis
  unfold visB at h2
  split at h2
  · exact .inl ((O.o.hs x).1 (by assumption))
  · exact .inr (.inl ((O.o.hs x).2.1 (by assumption)))
  · exact .inr ((O.o.hs x).2.2.1 (by assumption))
  · cases h2
theorem frz_rd {i : Nat} {D : Ends} {H : Hp} (h : RS K C (.frz i) D σ H) : D.nx σ H := by
  obtain ⟨S0, S, sl, rfl, f, h⟩ := h
  unfold execS at h
  have h := h.andE
  unfold slotOwn at h
  split at h
  · rename_i xs q
    have h1 := Wp.pure f.ok h
    obtain ⟨hi, p⟩ := WpF.put h1
    obtain ⟨a, q2, ow⟩ := f.sr.at q
    obtain ⟨vs, hv, r, nf, nm, z⟩ := id ow
    have e2 : ExtT (fun b => b = a) S { S with F := fun b => S.F b ∨ b = a } := ⟨Nat.le_refl _, fun _ _ => rfl, fun _ _ h _ _ => h, fun _ h => h, fun _ h => .inl h, fun b h => by
      rcases h with (h | h) | h
      · exact .inl h
      · exact .inr (.inr (.inr h))
      · exact .inr (.inl h)⟩
    have tk : Tok (fun b => b = a) S := ⟨fun b z => by rw [z]; exact ⟨vs, hv⟩, fun b z => by rw [z]; exact nf⟩
    have o2 : WOk K { S with F := fun b => S.F b ∨ b = a } := by
      refine ⟨fun t o h => ?_, f.ok.inj, fun b h => ?_⟩
      · have q := f.ok.obj t o h
        cases o with
        | ins c fs => exact q.elim
        | lst ys => obtain ⟨ws, h2, r2⟩ := q; exact ⟨ws, h2, Reps.monoT f.ok e2 tk _ _ r2⟩
      · rcases h with h | h
        · exact f.ok.fz b h
        · rw [h]; exact ⟨⟨vs, hv⟩, nm⟩
    have eT : ExtT (owned sl σ) S { S with F := fun b => S.F b ∨ b = a } := ⟨e2.len, e2.m, fun c u h1 n t => e2.keep c u h1 n fun z => t ⟨i, xs, q, by rw [z]; exact q2⟩, e2.dom, e2.frz, fun c hc => by
      rcases e2.new c hc with z | z | z | z
      · exact .inl z
      · exact .inr (.inl z)
      · exact .inr (.inr (.inl z))
      · exact .inr (.inr (.inr ⟨i, xs, q, by rw [z]; exact q2⟩))⟩
    have b := f.sr.but f.ok q q2 e2
    have s := b.set (i := i) (d := .lst xs) (v := .ref a) (by unfold Rep; exact ⟨a, vs, rfl, hv, .inr rfl, Reps.monoT f.ok e2 tk _ _ r⟩)
    rw [set_none, set_none, set_same q2] at s
    refine (p _ eT o2 rfl).end_ s fun c hc => ?_
    rw [show σ = σ.set i (some (.ref a)) from (set_same q2).symm] at hc
    exact .inl (owned_val hc)
  · exact h.elim
mutual
theorem snd_S (O : SOk P C k N sc X) : ∀ (s : MS) {st : Stmt}, agS P N sc s st = true → PS X st (RS X.K C s)
  | .set i e, st, h => by
    cases st <;> first | exact Bool.noConfusion (show false = true from h) | skip
    rename_i ts v pos
    match ts, h with
    | [.Name x p], h =>
      have h : (locB N sc i x && agE P N e sc v && (!isComp v || (isLc v && isCmp e))) = true := h
      obtain ⟨h, h3⟩ := and2 h
      obtain ⟨h1, h2⟩ := and2 h
      exact PS.to (asg_of O h1 h2 h3 RE.pd fun σ H Q q => RD.of q) fun D σ H q => set_rd q
  | .own i e, st, h => by
    cases st <;> first | exact Bool.noConfusion (show false = true from h) | skip
    rename_i ts v pos
    match ts, h with
    | [.Name x p], h =>
      have h : (locB N sc i x && agE P N e sc v && (!isComp v || (isLc v && isCmp e))) = true := h
      obtain ⟨h, h3⟩ := and2 h
      obtain ⟨h1, h2⟩ := and2 h
      exact PS.to (asg_of O h1 h2 h3 (fun z => z) fun σ H Q q => q) fun D σ H q => own_rd q
  | .heap i e, st, h => by
    cases st <;> first | exact Bool.noConfusion (show false = true from h) | skip
    rename_i ts v pos
    match ts, h with
    | [.Name x p], h =>
      have h : (locB N sc i x && agE P N e sc v && (!isComp v || (isLc v && isCmp e))) = true := h
      obtain ⟨h, h3⟩ := and2 h
      obtain ⟨h1, h2⟩ := and2 h
      exact PS.to (asg_of O h1 h2 h3 (fun z => z) fun σ H Q q => q) fun D σ H q => heap_rd q
  | .par tg e, st, h => by
    cases st <;> first | exact Bool.noConfusion (show false = true from h) | skip
    rename_i ts v pos
    match ts, h with
    | [t], h =>
      have h : (tgB N sc tg t && isTup t && agE P N e sc v && tupOk v) = true := h
      obtain ⟨h, h4⟩ := and2 h
      obtain ⟨h, h3⟩ := and2 h
      obtain ⟨h1, h2⟩ := and2 h
      cases t <;> first | exact Bool.noConfusion (show false = true from h2) | skip
      refine PS.to (ps_asg (RE.pd (snd_E e O.o h3).1) (tg_rd O.o tg _ h1) (by cases v <;> rfl) ?_) fun D σ H q => par_rd q
      cases v <;> first | rfl | exact swap_none h4
  | .par2 i j a b, st, h => by
    cases st <;> first | exact Bool.noConfusion (show false = true from h) | skip
    rename_i ts v pos
    match ts, v, h with
    | [.Tuple [.Name x px, .Name y py] kt pt], .Tuple [u, v] k2 p2, h =>
      have h : (lclB N sc i x && lclB N sc j y && decide (i ≠ j) && decide (x ≠ y) && (py.line == px.line) && nst u && nst v && !swapA [u, v] && !swapC [u, v] && agE P N a sc u && agE P N b sc v) = true := h
      obtain ⟨h, a2⟩ := and2 h
      obtain ⟨h, a1⟩ := and2 h
      obtain ⟨h, sc2⟩ := and2 h
      obtain ⟨h, sa⟩ := and2 h
      obtain ⟨h, n2⟩ := and2 h
      obtain ⟨h, n1⟩ := and2 h
      obtain ⟨h, l1⟩ := and2 h
      obtain ⟨h, d2⟩ := and2 h
      obtain ⟨h, d1⟩ := and2 h
      obtain ⟨i1, i2⟩ := and2 h
      obtain ⟨q1, c1⟩ := lcl_rd O i1
      obtain ⟨q2, c2⟩ := lcl_rd O i2
      obtain ⟨e1, _, _, pl1⟩ := snd_E a O.o a1
      obtain ⟨e2, _, _, pl2⟩ := snd_E b O.o a2
      exact PS.to (ps_par O.o.hc (ndX O) q1 q2 (of_decide_eq_true d1) c1 c2 (pa2 pl1 pl2 (RE.pd e1) (RE.pd e2)) (swap2' O c1 c2 (of_decide_eq_true d2) l1 n1 n2 (by simpa using sa) (by simpa using sc2))) fun D σ H q => par2_rd q
  | .par3 i j l a b c, st, h => by
    cases st <;> first | exact Bool.noConfusion (show false = true from h) | skip
    rename_i ts v pos
    match ts, v, h with
    | [.Tuple [.Name x px, .Name y py, .Name z pz] kt pt], .Tuple [u, v, w] k2 p2, h =>
      have h : (lclB N sc i x && lclB N sc j y && lclB N sc l z && decide (i ≠ j) && decide (i ≠ l) && decide (j ≠ l) && decide (x ≠ y) && decide (x ≠ z) && decide (y ≠ z) && (py.line == px.line) && (pz.line == px.line) && nst u && nst v && nst w && !swapA [u, v, w] && !swapC [u, v, w] && agE P N a sc u && agE P N b sc v && agE P N c sc w) = true := h
      obtain ⟨h, a3⟩ := and2 h
      obtain ⟨h, a2⟩ := and2 h
      obtain ⟨h, a1⟩ := and2 h
      obtain ⟨h, sc2⟩ := and2 h
      obtain ⟨h, sa⟩ := and2 h
      obtain ⟨h, n3⟩ := and2 h
      obtain ⟨h, n2⟩ := and2 h
      obtain ⟨h, n1⟩ := and2 h
      obtain ⟨h, l2⟩ := and2 h
      obtain ⟨h, l1⟩ := and2 h
      obtain ⟨h, f3⟩ := and2 h
      obtain ⟨h, f2⟩ := and2 h
      obtain ⟨h, f1⟩ := and2 h
      obtain ⟨h, d3⟩ := and2 h
      obtain ⟨h, d2⟩ := and2 h
      obtain ⟨h, d1⟩ := and2 h
      obtain ⟨h, i3⟩ := and2 h
      obtain ⟨i1, i2⟩ := and2 h
      obtain ⟨q1, c1⟩ := lcl_rd O i1
      obtain ⟨q2, c2⟩ := lcl_rd O i2
      obtain ⟨q3, c3⟩ := lcl_rd O i3
      obtain ⟨e1, _, _, pl1⟩ := snd_E a O.o a1
      obtain ⟨e2, _, _, pl2⟩ := snd_E b O.o a2
      obtain ⟨e3, _, _, pl3⟩ := snd_E c O.o a3
      refine PS.to (ps_par3 O.o.hc (ndX O) q1 q2 q3 (of_decide_eq_true d1) (of_decide_eq_true d2) (of_decide_eq_true d3) c1 c2 c3 (pa3 pl1 pl2 pl3 (RE.pd e1) (RE.pd e2) (RE.pd e3)) (swap3' O c1 c2 c3 (of_decide_eq_true f1) (of_decide_eq_true f2) (of_decide_eq_true f3) l1 l2 n1 n2 n3 (by simpa using sa) (by simpa using sc2))) fun D σ H q => ?_
      dsimp only [tPar3, tCons, tNil]
      refine RD.mono (par3_rd q) fun x H1 q => RD.mono q fun y H2 q => RD.mono q fun z H3 q => ⟨x, y, z, rfl, q⟩
  | .aug i op e, st, h => by
    cases st <;> first | exact Bool.noConfusion (show false = true from h) | skip
    rename_i t o v pos
    cases t <;> first | exact Bool.noConfusion (show false = true from h) | skip
    rename_i x p
    have h : (locB N sc i x && decide (opA op = some o) && decide (op ≠ .pow) && agE P N e sc v) = true := h
    obtain ⟨h, h4⟩ := and2 h
    obtain ⟨h, h3⟩ := and2 h
    obtain ⟨h1, h2⟩ := and2 h
    obtain ⟨hi, hl⟩ := loc_rd O h1
    exact PS.to (ps_aug (ndX O) hi hl (snd_E e O.o h4).1 (pip_of (of_decide_eq_true h2) (of_decide_eq_true h3)) (fnx O x)) fun D σ H q => aug_rd q
  | .meth i m xs, st, h => by
    cases st <;> first | exact Bool.noConfusion (show false = true from h) | skip
    rename_i v pos
    cases v <;> first | exact Bool.noConfusion (show false = true from h) | skip
    rename_i fe args kws cp
    cases fe <;> first | exact Bool.noConfusion (show false = true from h) | skip
    rename_i oe nm ap
    cases oe <;> first | exact Bool.noConfusion (show false = true from h) | skip
    rename_i x p
    cases kws <;> first | exact Bool.noConfusion (show false = true from h) | skip
    obtain ⟨h, h4⟩ := and2 h
    obtain ⟨h, h3⟩ := and2 h
    obtain ⟨h1, h2⟩ := and2 h
    have en := of_decide_eq_true h2
    subst en
    have hp := pe_meth_ O (pe_pv O (pos := p) h1) (fun σ H Q Q' w ⟨v, e, q⟩ => ⟨v, e, w _ _ q⟩) (fun nm => rfl) h3 h4
    refine PS.to (ps_expr hp rfl) fun D σ H q => ?_
    obtain ⟨a, q1, q2, q3⟩ := methS_rd q
    exact ⟨_, q1, a, rfl, q2, q3⟩
  | .setIx i kx e, st, h => by
    cases st <;> first | exact Bool.noConfusion (show false = true from h) | skip
    rename_i ts v pos
    match ts, h with
    | [.Subscript (.Name x p) kk p2], h =>
      have h : (nmB N sc i x && plIx kk && agE P N kx sc kk && agE P N e sc v) = true := h
      obtain ⟨h, h3⟩ := and2 h
      obtain ⟨h, h2⟩ := and2 h
      obtain ⟨h1, h0⟩ := and2 h
      refine PS.to (ps_asg (RE.pd (snd_E e O.o h3).1) (pg_sub (pe_pv O (pos := p) h1) (snd_E kx O.o h2).1 set_list (plix_ h0)) (by cases v <;> rfl) rfl) fun D σ H q => ?_
      have q := setIx_rd q
      obtain ⟨S0, S, sl, eH, f, q⟩ := q
      exact ⟨S0, S, sl, eH, f, q.mono fun d S' _ _ z v rv => by
        obtain ⟨a, q1, q2⟩ := z v rv
        exact ⟨_, q1, q2⟩⟩
  | .setHx o kx e, st, h => by
    cases st <;> first | exact Bool.noConfusion (show false = true from h) | skip
    rename_i ts v pos
    match ts, h with
    | [.Subscript oo kk p2], h =>
      have h' : (agE P N o sc oo && plIx kk && agE P N kx sc kk && agE P N e sc v) = true := by
        cases oo <;> exact h
      obtain ⟨h, h3⟩ := and2 h'
      obtain ⟨h, h2⟩ := and2 h
      obtain ⟨h1, h0⟩ := and2 h
      exact PS.to (ps_asg (RE.pd (snd_E e O.o h3).1) (pg_sub (snd_E o O.o h1).1 (snd_E kx O.o h2).1 set_list (plix_ h0)) (by cases v <;> rfl) rfl) fun D σ H q => setHx_rd q
  | .hmeth o m xs, st, h => by
    cases st <;> first | exact Bool.noConfusion (show false = true from h) | skip
    rename_i v pos
    cases v <;> first | exact Bool.noConfusion (show false = true from h) | skip
    rename_i fe args kws cp
    cases fe <;> first | exact Bool.noConfusion (show false = true from h) | skip
    rename_i oe nm ap
    cases kws <;> first | exact Bool.noConfusion (show false = true from h) | skip
    obtain ⟨h, h4⟩ := and2 h
    obtain ⟨h, h3⟩ := and2 h
    obtain ⟨h, h2⟩ := and2 h
    obtain ⟨h0, h1⟩ := and2 h
    have en := of_decide_eq_true h2
    subst en
    have hp := pe_meth_ O (snd_E o O.o h1).1 (fun σ H Q Q' w q => RE.mono q w) (fun nm => base_rd h0 nm _) h3 h4
    exact PS.to (ps_expr hp rfl) fun D σ H q => hmeth_rd q
  | .expr e, st, h => by
    cases st <;> first | exact Bool.noConfusion (show false = true from h) | skip
    rename_i v pos
    have h : (!isComp v && agE P N e sc v) = true := h
    obtain ⟨h1, h2⟩ := and2 h
    exact PS.to (ps_expr (snd_E e O.o h2).1 (sw_no (by simpa using h1) _ _ _)) fun D σ H q => expr_rd q
  | .ret e, st, h => by
    cases st <;> first | exact Bool.noConfusion (show false = true from h) | skip
    rename_i v pos
    match v, h with
    | some v, h => exact PS.to (ps_ret (snd_E e O.o h).1) fun D σ H q => ret_rd q
  | .retN, st, h => by
    cases st <;> first | exact Bool.noConfusion (show false = true from h) | skip
    rename_i v pos
    match v, h with
    | none, h => exact PS.to ps_retN fun D σ H q => retN_rd q
  | .iff c a b, st, h => by
    cases st <;> first | exact Bool.noConfusion (show false = true from h) | skip
    rename_i t x y pos
    have h : (agE P N c sc t && agB P N sc a x && agB P N sc b y) = true := h
    obtain ⟨h, h3⟩ := and2 h
    obtain ⟨h1, h2⟩ := and2 h
    exact PS.to (ps_if (snd_E c O.o h1).2.1 (snd_B O a h2) (snd_B O b h3)) fun D σ H q => iff_rd q
  | .whl c b, st, h => by
    cases st <;> first | exact Bool.noConfusion (show false = true from h) | skip
    rename_i t x oe pos
    cases oe <;> first | exact Bool.noConfusion (show false = true from h) | skip
    have h : (agE P N c sc t && agB P N sc b x) = true := h
    obtain ⟨h1, h2⟩ := and2 h
    exact PS.to (ps_while O.pa (snd_E c O.o h1).2.1 (snd_B O b h2)) fun D σ H q => whl_rd q
  | .for_ tg it b, st, h => by
    cases st <;> first | exact Bool.noConfusion (show false = true from h) | skip
    rename_i t i x oe pos
    cases oe <;> first | exact Bool.noConfusion (show false = true from h) | skip
    have h : (notSet i && agI P N it sc i (isTup t) && tgB N sc tg t && agB P N sc b x) = true := h
    obtain ⟨h, h4⟩ := and2 h
    obtain ⟨h, h3⟩ := and2 h
    obtain ⟨h1, h2⟩ := and2 h
    exact PS.to (ps_for O.pa O.o.hc (snd_I it O.o h2) (tg_rd O.o tg t h3) (snd_B O b h4) (fold_rd h1 _)) fun D σ H q => for_rd q
  | .pass, st, h => by
    cases st <;> first | exact Bool.noConfusion (show false = true from h) | skip
    exact PS.to ps_pass fun D σ H q => pass_rd q
  | .brk, st, h => by
    cases st <;> first | exact Bool.noConfusion (show false = true from h) | skip
    exact PS.to ps_break fun D σ H q => brk_rd q
  | .cnt, st, h => by
    cases st <;> first | exact Bool.noConfusion (show false = true from h) | skip
    exact PS.to ps_continue fun D σ H q => cnt_rd q
  | .frz i, st, h => Bool.noConfusion (show false = true from h)
theorem snd_B (O : SOk P C k N sc X) : ∀ (b : MSs) {sts : List Stmt}, agB P N sc b sts = true → PSs X sts (RB X.K C b)
  | .nil, sts, h => by
    match sts, h with
    | [], _ => exact PSs.to pss_nil fun D σ H q => nil_rd q
  | .cons s r, sts, h => by
    by_cases hf : ∃ i, s = .frz i
    · obtain ⟨i, rfl⟩ := hf
      have h : agB P N sc r sts = true := h
      exact PSs.to (snd_B O r h) fun D σ H q => frz_rd (cons_rd q)
    · match sts, h with
      | [], h => cases s <;> first | exact absurd ⟨_, rfl⟩ hf | exact Bool.noConfusion (show false = true from h)
      | st :: rest, h =>
        have h' : (agS P N sc s st && agB P N sc r rest) = true := by
          cases s <;> first | exact absurd ⟨_, rfl⟩ hf | exact h
        obtain ⟨h1, h2⟩ := and2 h'
        exact PSs.to (pss_cons (snd_S O s h1) (snd_B O r h2)) fun D σ H q => cons_rd q
end
end Wb

set_option maxHeartbeats 8000000
/-! A table of functions: each keeps its promise. -/
namespace Wb
open PySem PySem.Spec L2
/-- a def of the row's text and its small text -/
structure FT where
  d : He.DefD
  N : List Str
  ps : List Str
def Pr.tab (P : Pr) (g : Nat) : Option Fn := (P.fns[g]?).map (·.2)
/-- what the kernel computes of a def -/
def bound (fd : FuncData) (ps : List Str) : Prop := ∀ us : List Value, us.length = ps.length → bindArgs fd ⟨us, []⟩ = pure (ps.zip us)
structure FT.Ok (P : Pr) (p : Str × Fn) (t : FT) : Prop where
  nm : t.d.at_ = (p.1, none)
  dfl : t.d.dfl = []
  kwd : t.d.kwd = []
  scope : FnScope t.N t.ps t.d.scope
  np : t.ps.length = p.2.np
  ns : t.N.length = p.2.ns
  bind : ∀ (kV doc pm : Value) (an : Option Addr) (cdv ct : Value) (us : List Value), us.length = t.ps.length → bindArgs (PySem.W.fnOf t.d.name t.d.qual t.d.params t.d.body t.d.scope .none kV doc pm an cdv ct) ⟨us, []⟩ = pure (t.ps.zip us)
  body : agB P t.N t.d.scope p.2.body t.d.body = true
theorem callK_brw (T : Nat → Option Fn) : ∀ k g args (h h' : AH) ys, callK T k g args h ≠ .ok (.brw ys) h'
  | 0, g, args, h, h', ys, e => by cases e
  | k + 1, g, args, h, h', ys, e => by
    unfold callK at e
    cases q : T g with
    | none => rw [q] at e; cases e
    | some f =>
      rw [q] at e
      have e : callF (callK T k) f args h = .ok (.brw ys) h' := e
      unfold callF at e
      split at e
      · split at e
        · cases e
        · rename_i v _ _ _
          injection e with e1 e2
          cases v <;> cases e1
        · cases e
        · cases e
      · cases e
theorem start_rep {K : PySem.W.Frag} {S : Wd} {N : List Str} {args : List D} {vs : List V} (r : Reps K S args vs) (n : Nat) (hn : n = N.length - vs.length) : SlRep K S S (args.map (fun d => some (FV.val d)) ++ List.replicate n none) (L2.start N vs) := by
  have hl := r.length
  have no : ∀ (i : Nat) (xs : List D), (args.map (fun d => some (FV.val d)) ++ List.replicate n none)[i]? ≠ some (some (FV.own xs)) := by
    intro i xs h
    rw [List.getElem?_append] at h
    split at h
    · rw [List.getElem?_map] at h
      cases q : args[i]? with
      | none => rw [q] at h; cases h
      | some d => rw [q] at h; cases h
    · rw [List.getElem?_replicate] at h
      split at h <;> cases h
  refine ⟨?_, Ext.refl S, fun i d h => ?_, fun _ => 0, fun i xs h => absurd h (no i xs), fun i j xs ys h => absurd h (no i xs)⟩
  · unfold L2.start
    rw [List.length_append, List.length_append, List.length_map, List.length_map, List.length_replicate, List.length_replicate, hl, hn]
  · rw [List.getElem?_append] at h
    split at h
    · rename_i hi
      rw [List.getElem?_map] at h
      cases q : args[i]? with
      | none => rw [q] at h; cases h
      | some d' =>
        rw [q] at h
        cases h
        obtain ⟨v, hv, rv⟩ := r.get q
        refine ⟨v, ?_, rv⟩
        unfold L2.start
        rw [List.length_map] at hi
        rw [List.getElem?_append_left (by rw [List.length_map]; omega), List.getElem?_map, hv]
        rfl
    · rw [List.getElem?_replicate] at h
      split at h <;> cases h
theorem ExtT.bare {T : Addr → Prop} {S S' : Wd} (e : ExtT T S S') (h : ∀ a, ¬ T a) : Ext S S' := by
  have q : T = fun _ => False := funext fun a => propext ⟨h a, False.elim⟩
  rw [q] at e
  exact e
theorem start_bare {args : List D} {n : Nat} {σ : L2.St} {a : Addr} (z : owned (args.map (fun d => some (FV.val d)) ++ List.replicate n none) σ a) : False := by
  obtain ⟨i, xs, q, _⟩ := z
  rw [List.getElem?_append] at q
  split at q
  · rw [List.getElem?_map] at q
    cases q2 : args[i]? with
    | none => rw [q2] at q; cases q
    | some d => rw [q2] at q; cases q
  · rw [List.getElem?_replicate] at q
    split at q <;> cases q
theorem RVRep.out {K : PySem.W.Frag} {S S' : Wd} {r : RV} {v : V} (h : RVRep K S S S' r v) : RVRep K S S S' r.out v := by
  cases r <;> exact h
/-- a body under its def's promise -/
theorem body_rd {K : PySem.W.Frag} {T : Nat → Option Fn} {k g : Nat} {f : Fn} {N : List Str} {vs : List V} {H : Hp} {Q : VK} {E : XK} (hg : T g = some f) (hN : N.length = f.ns) (h : spF K (callK T (k + 1)) g vs H Q E) :
    vs.length = f.np ∧ RB K (callK T k) f.body { nx := fun _ H' => Q .non H', rt := Q } (L2.start N vs) H := by
  obtain ⟨S, args, eH, ok, r, h⟩ := h
  unfold Wp at h
  unfold callK at h
  rw [hg] at h
  dsimp only at h
  have hl := r.length
  unfold callF at h
  by_cases q : args.length = f.np
  · rw [if_pos q] at h
    refine ⟨by omega, S, S, _, eH, ⟨ok, start_rep (N := N) r (f.ns - f.np) (by omega)⟩, ?_⟩
    unfold WpF
    generalize execB (callK T k) f.body (args.map (fun d => some (FV.val d)) ++ List.replicate (f.ns - f.np) none) S.ah = res at h ⊢
    cases res with
    | stuck => exact h
    | exc x sl' h' => exact fun S' e o eh => h S' (e.bare fun a z => start_bare z) o eh
    | ok fl sl' h' =>
      cases fl with
      | nx =>
        intro S' e o eh σ' sr _
        exact h S' (e.bare fun a z => start_bare z) o eh _ (by unfold RVRep Rep; rfl)
      | rt v =>
        intro S' e o eh σ' sr _ u ru
        exact h S' (e.bare fun a z => start_bare z) o eh _ ru.out
      | bk => exact h.elim
      | ct => exact h.elim
  · rw [if_neg q] at h
    exact h.elim
section
variable {P : Pr} {fts : List FT} {Pg : Program} {w : World} {K : PySem.W.Frag} {mg : Str → Option Value} {base : Heap}
/-- what the head tells -/
structure TblOk (P : Pr) (fts : List FT) (K : PySem.W.Frag) (mg : Str → Option Value) : Prop where
  ok : ∀ (g : Nat) (p : Str × Fn), P.fns[g]? = some p → ∃ (t : FT) (f : Addr) (fd : FuncData), fts[g]? = some t ∧ t.Ok P p ∧ mg p.1 = some (.ref f) ∧ FunD K t.d.name t.d.qual t.d.params t.d.body t.d.scope [] [] f fd
  cons : ∀ p ∈ P.cons, ∃ (u : Value) (v : V), mg p.1 = some u ∧ RelV v u ∧ ∀ S, Rep K S p.2 v
  blt : ∀ x ∈ bltNames, mg x = none
mutual
theorem one_ok (T : TblOk P fts K mg) : ∀ k g p (t : FT) (f : Addr) (fd : FuncData), P.fns[g]? = some p → t.Ok P p → FunD K t.d.name t.d.qual t.d.params t.d.body t.d.scope [] [] f fd → FnOk Pg w K mg base CX0 k f fd t.ps (spF K (callK P.tab k) g)
  | 0, g, p, t, f, fd, hg, ok, F => ⟨fun vs H Q E h => by
      obtain ⟨S, args, _, _, _, h⟩ := h
      exact h.elim, fun A outer s H args us vs Q E _ _ _ _ h => by
      obtain ⟨S, args, _, _, _, h⟩ := h
      exact h.elim⟩
  | k + 1, g, p, t, f, fd, hg, ok, F => by
    have hT : P.tab g = some p.2 := by unfold Pr.tab; rw [hg]; rfl
    refine F.ok ok.scope (fun vs H Q E h => ?_) fun cdv A outer s H vs Q E hr h => ?_
    · rw [(body_rd hT ok.ns h).1, ok.np]
    · refine ⟨_, PSs.nox ?_, (body_rd hT ok.ns h).2⟩
      refine snd_B (P := P) (k := k) (N := t.N) (sc := t.d.scope) ⟨⟨rfl, ok.scope.nd, fun x => ⟨id, id, fun z => .inr z, id⟩, rfl, T.blt, T.cons, fun g p hg => ?_, callK_brw _ _, hr, fun _ _ => .inl rfl⟩, rfl, ok.scope.kind, PassesOwn.never, fun _ => rfl⟩ _ ok.body
      obtain ⟨t', f', fd', ht, ok', hm, F'⟩ := T.ok g p hg
      exact ⟨f', fd', t'.ps, hm, F'.kp, F'.bindsN ok'.bind, one_ok T k g p t' f' fd' hg ok' F'⟩
end
end
/-! ### from the head -/
def conFa (p : Str × D) : He.Fa := match p.2 with
  | .int i => .int p.1 i
  | .str s => .str p.1 s
  | _ => .free p.1
def conB : D → Bool
  | .int _ => true | .str _ => true | _ => false
def faOf (P : Pr) : List He.Fa := P.fns.map (fun p => He.Fa.glo p.1) ++ (bltNames.map He.Fa.free ++ P.cons.map conFa)
def AllOk (P : Pr) : List (Str × Fn) → List FT → Prop
  | [], [] => True
  | p :: ps, t :: ts => t.Ok P p ∧ AllOk P ps ts
  | _, _ => False
theorem AllOk.get {P : Pr} : ∀ {ps : List (Str × Fn)} {ts : List FT} (g : Nat) (p : Str × Fn), AllOk P ps ts → ps[g]? = some p → ∃ t, ts[g]? = some t ∧ t.Ok P p
  | [], [], g, p, _, h => by simp at h
  | q :: ps, t :: ts, 0, p, a, h => by
    have e : q = p := by simpa using h
    subst e
    exact ⟨t, rfl, a.1⟩
  | q :: ps, t :: ts, g + 1, p, a, h => by
    obtain ⟨t', h1, h2⟩ := AllOk.get g p a.2 (by simpa using h)
    exact ⟨t', by simpa using h1, h2⟩
  | [], _ :: _, _, _, a, _ => a.elim
  | _ :: _, [], _, _, a, _ => a.elim
theorem tbl_of {P : Pr} {fts : List FT} {K : PySem.W.Frag} {h : Heap} {mg : Str → Option Value} (X : K.In h) (G : h.Ns mainGlobals mg) (c : He.SaysD (faOf P) (fts.map (·.d)) K) (ok : AllOk P P.fns fts) (hc : P.cons.all (fun p => conB p.2) = true) : TblOk P fts K mg := by
  have fact : ∀ f ∈ faOf P, f.ok K = true := fun f hf => by
    obtain ⟨i, hi⟩ := List.getElem?_of_mem hf
    exact c.fact i hi
  refine ⟨fun g p hg => ?_, fun p hp => ?_, fun x hx => ?_⟩
  · obtain ⟨t, ht, o⟩ := AllOk.get g p ok hg
    obtain ⟨fd, F⟩ := c.def_ g (d := t.d) (by rw [List.getElem?_map, ht]; rfl)
    have e : He.fAd K t.d.at_ = He.ga K p.1 := by rw [o.nm]; rfl
    have e1 : t.d.dvs K = [] := by unfold He.DefD.dvs; rw [o.dfl]; rfl
    have e2 : t.d.kws K = [] := by unfold He.DefD.kws; rw [o.kwd]; rfl
    rw [e, e1, e2] at F
    have m : He.Fa.glo p.1 ∈ faOf P := List.mem_append_left _ (List.mem_map.mpr ⟨p, List.mem_of_getElem? hg, rfl⟩)
    exact ⟨t, _, fd, ht, o, He.glo_ok X G (fact _ m), F⟩
  · have m : conFa p ∈ faOf P := List.mem_append_right _ (List.mem_append_right _ (List.mem_map.mpr ⟨p, hp, rfl⟩))
    have q := fact _ m
    have b := List.all_eq_true.mp hc p hp
    obtain ⟨x, d⟩ := p
    cases d <;> first | exact Bool.noConfusion (show false = true from b) | skip
    · obtain ⟨t, e⟩ := He.int_ok X G q
      exact ⟨_, .int _, e, ⟨t, rfl⟩, fun S => by unfold Rep; rfl⟩
    · obtain ⟨t, e⟩ := He.str_ok X G q
      exact ⟨_, .str _, e, ⟨t, rfl⟩, fun S => by unfold Rep; rfl⟩
  · exact He.free_ok X G (fact _ (List.mem_append_right _ (List.mem_append_left _ (List.mem_map.mpr ⟨x, hx, rfl⟩))))
/-- a law that answers yes: the walk -/
theorem law_walk {l : PySem.W.OpenLaw} {P : Pr} {fts : List FT} {q : Program} {loose : List Str} {XP : (Str → Option Value) → Heap → Prop} {d : DefRec} {x : Str} {n k g : Nat} {p : Str × Fn} {t : FT}
    (hn : l.most = some n) (hn2 : n ≤ sizeLine) (hdf : d.params.defaults = []) (hr : Room k callerA) (ok : AllOk P P.fns fts) (hc : P.cons.all (fun p => conB p.2) = true)
    (hg : P.fns[g]? = some p) (ht : fts[g]? = some t) (hx : t.ps = [x]) (hd : d.name = p.1)
    (law : ∀ ns : List Int, ns.length ≤ n → ∃ h', callK P.tab k g [.scr ns] [] = .ok (.val (.bl true)) h') :
    PySem.W.WalkO q loose XP (He.hookD 4 (faOf P) (fts.map (·.d))).says l.row.toRowW d [] (fun f vs => PySem.call f vs) := by
  refine L2.walk_ofE (CX := CX0) (x := x) hn hn2 hdf hr (fun w mg fa h Y G hm => ?_) (fun _ _ _ _ z => z)
  obtain ⟨K, KX, c⟩ := Y
  have T := tbl_of KX G c ok hc
  obtain ⟨t', f, fd, ht', o, hm', F⟩ := T.ok g p hg
  rw [ht] at ht'
  cases ht'
  rw [hd, hm'] at hm
  cases hm
  refine ⟨K, fd, spF K (callK P.tab k) g, KX, fun s u => ?_, fun H a ns hl only hS => ?_, fun base _ _ => hx ▸ one_ok T k g p t _ fd hg o F⟩
  · have b := F.bindsA o.bind s [u] (by rw [hx]; rfl)
    rw [hx] at b
    exact b
  · obtain ⟨h', e⟩ := law ns hl
    refine ⟨⟨H, [], fun _ => 0, fun _ => False⟩, [.scr ns], rfl, ⟨fun t o h => by simp at h, fun t u h => absurd h (Nat.not_lt_zero _), fun a h => h.elim⟩, ?_, ?_⟩
    · unfold Reps
      refine ⟨.ref a, [], rfl, ?_, by unfold Reps; rfl⟩
      unfold Rep
      refine ⟨a, rfl, ?_⟩
      rcases hS with (hS | hS) | hS
      · rcases only a with z | ⟨o, xs, z⟩
        · rw [hS] at z; cases z
        · rw [hS] at z; cases z
      · exact .inl hS
      · exact .inr hS
    · unfold Wp
      dsimp only
      rw [e]
      intro S' _ _ _ v r
      exact r
end Wb

set_option maxHeartbeats 4000000
/-! What the evaluator does, backwards. -/
namespace Wb
open PySem
@[irreducible] def Ok {α : Type} (m : M α) (h : AH) (Q : α → AH → Prop) : Prop := match m h with
  | .ok a h' => Q a h'
  | _ => False
@[irreducible] def OkF (m : MF) (h : AH) (Q : Fl → Sl → AH → Prop) : Prop := match m h with
  | .ok f sl h' => Q f sl h'
  | _ => False
/-- there is one, and it is as Q says -/
def optP {α : Type} (o : Option α) (Q : α → Prop) : Prop := match o with
  | some a => Q a
  | none => False
theorem optP_congr {α : Type} {o o' : Option α} {Q : α → Prop} (e : o = o') : optP o Q = optP o' Q := by rw [e]
@[simp] theorem optP_some {α : Type} (a : α) (Q : α → Prop) : optP (some a) Q ↔ Q a := Iff.rfl
@[simp] theorem optP_none {α : Type} (Q : α → Prop) : optP none Q ↔ False := Iff.rfl
theorem optP_of {α : Type} {o : Option α} {a : α} {Q : α → Prop} (e : o = some a) (q : Q a) : optP o Q := by rw [e]; exact q
section
variable {α β : Type} {h : AH} {C : Callee} {sl : Sl}
theorem Ok.mono {m : M α} {Q Q' : α → AH → Prop} (o : Ok m h Q) (w : ∀ a h', Q a h' → Q' a h') : Ok m h Q' := by
  unfold Ok at o ⊢
  cases e : m h with
  | ok a h' => rw [e] at o; exact w _ _ o
  | exc x h' => rw [e] at o; exact o
  | stuck => rw [e] at o; exact o
theorem OkF.mono {m : MF} {Q Q' : Fl → Sl → AH → Prop} (o : OkF m h Q) (w : ∀ f sl h', Q f sl h' → Q' f sl h') : OkF m h Q' := by
  unfold OkF at o ⊢
  cases e : m h with
  | ok f a h' => rw [e] at o; exact w _ _ _ o
  | exc x a h' => rw [e] at o; exact o
  | stuck => rw [e] at o; exact o
theorem Ok.ex {m : M α} {Q : α → AH → Prop} (o : Ok m h Q) : ∃ a h', m h = .ok a h' ∧ Q a h' := by
  unfold Ok at o
  cases e : m h with
  | ok a h' => rw [e] at o; exact ⟨a, h', rfl, o⟩
  | exc x h' => rw [e] at o; exact o.elim
  | stuck => rw [e] at o; exact o.elim
/-- what stands behind is left alone -/
theorem ok_congr {m m' : M α} {Q : α → AH → Prop} (e : m = m') : Ok m h Q = Ok m' h Q := by rw [e]
theorem okF_congr {m m' : MF} {Q : Fl → Sl → AH → Prop} (e : m = m') : OkF m h Q = OkF m' h Q := by rw [e]
@[simp ↓] theorem ok_pure (a : α) (Q : α → AH → Prop) : Ok (pure a : M α) h Q ↔ Q a h := by unfold Ok; exact Iff.rfl
@[simp ↓] theorem ok_bind (m : M α) (k : α → M β) (Q : β → AH → Prop) : Ok (m >>= k) h Q ↔ Ok m h fun a h' => Ok (k a) h' Q := by
  unfold Ok
  rw [bind_def]
  cases m h <;> exact Iff.rfl
@[simp ↓] theorem ok_guard (c : Prop) [Decidable c] (Q : Unit → AH → Prop) : Ok (guardM c) h Q ↔ c ∧ Q () h := by
  unfold Ok guardM
  by_cases q : c
  · rw [if_pos q]; exact ⟨fun z => ⟨q, z⟩, fun z => z.2⟩
  · rw [if_neg q]; exact ⟨fun z => z.elim, fun z => (q z.1).elim⟩
@[simp ↓] theorem ok_getH (Q : AH → AH → Prop) : Ok getH h Q ↔ Q h h := by unfold Ok; exact Iff.rfl
@[simp ↓] theorem ok_opt (o : Option α) (Q : α → AH → Prop) : Ok (opt o) h Q ↔ optP o fun a => Q a h := by
  unfold Ok
  cases o <;> exact Iff.rfl
@[simp ↓] theorem ok_asInt (i : Int) (Q : Int → AH → Prop) : Ok (asInt (.val (.int i))) h Q ↔ Q i h := by unfold Ok; exact Iff.rfl
@[simp ↓] theorem ok_asBl (i : Bool) (Q : Bool → AH → Prop) : Ok (asBl (.val (.bl i))) h Q ↔ Q i h := by unfold Ok; exact Iff.rfl
@[simp ↓] theorem ok_asDv (d : D) (Q : D → AH → Prop) : Ok (asD (.val d)) h Q ↔ Q d h := by unfold Ok; exact Iff.rfl
@[simp ↓] theorem ok_asDo (d : List D) (Q : D → AH → Prop) : Ok (asD (.own d)) h Q ↔ Q (.lst d) h := by unfold Ok; exact Iff.rfl
@[simp ↓] theorem ok_asV (d : D) (Q : D → AH → Prop) : Ok (asV (.val d)) h Q ↔ Q d h := by unfold Ok; exact Iff.rfl
@[simp ↓] theorem ok_ownOf (d : List D) (Q : List D → AH → Prop) : Ok (ownOf (.own d)) h Q ↔ Q d h := by unfold Ok; exact Iff.rfl
@[simp ↓] theorem ok_newHeap (xs : List D) (Q : Nat → AH → Prop) : Ok (newHeap xs) h Q ↔ Q h.length (h ++ [.lst xs]) := by unfold Ok; exact Iff.rfl
@[simp ↓] theorem ok_setHeap (t : Nat) (xs : List D) (Q : Unit → AH → Prop) : Ok (setHeap t xs) h Q ↔ Q () (h.set t (.lst xs)) := by unfold Ok; exact Iff.rfl
@[simp ↓] theorem ok_heapL (t : Nat) (Q : Nat × List D → AH → Prop) : Ok (heapL (.val (.ref t))) h Q ↔ optP h[t]? fun o => match o with
    | .lst xs => Q (t, xs) h
    | _ => False := by
  unfold Ok heapL
  dsimp only
  cases e : h[t]? with
  | none => exact Iff.rfl
  | some o => cases o <;> exact Iff.rfl
/-! ### expressions -/
@[simp ↓] theorem ok_var (i : Nat) (Q : RV → AH → Prop) : Ok (evalE C (.var i) sl) h Q ↔ (match sl[i]? with
    | some (some (.val d)) => Q (.val d) h
    | some (some (.own xs)) => Q (.brw xs) h
    | _ => False) := by
  unfold Ok evalE
  split
  · rename_i a h' e
    split at e
    · cases e; rename_i q; first | exact Iff.rfl | rw [q]
    · cases e; rename_i q; first | exact Iff.rfl | rw [q]
    · cases e
  · rename_i ne
    split
    · rename_i q; exact (ne _ _ (by rw [q])).elim
    · rename_i q; exact (ne _ _ (by rw [q])).elim
    · exact Iff.rfl
@[simp ↓] theorem ok_cst (d : D) (Q : RV → AH → Prop) : Ok (evalE C (.cst d) sl) h Q ↔ Q (.val d) h := by unfold Ok; exact Iff.rfl
@[simp ↓] theorem ok_glb (x : Str) (d : D) (Q : RV → AH → Prop) : Ok (evalE C (.glb x d) sl) h Q ↔ Q (.val d) h := by unfold Ok; exact Iff.rfl
@[simp ↓] theorem ok_bin (op : BinO) (a b : ME) (Q : RV → AH → Prop) : Ok (evalE C (.bin op a b) sl) h Q ↔ Ok (evalE C a sl) h fun x h1 => Ok (evalE C b sl) h1 fun y h2 => Ok (binSem op x y) h2 Q := by
  rw [evalE]; simp only [ok_bind]
@[simp ↓] theorem ok_una (op : UnO) (a : ME) (Q : RV → AH → Prop) : Ok (evalE C (.una op a) sl) h Q ↔ Ok (evalE C a sl) h fun x h1 => Ok (unSem op x) h1 Q := by
  rw [evalE]; simp only [ok_bind]
@[simp ↓] theorem ok_and (a b : ME) (Q : RV → AH → Prop) : Ok (evalE C (.and_ a b) sl) h Q ↔ Ok (evalE C a sl) h fun x h1 => Ok (asBl x) h1 fun k h2 => Ok (if k then evalE C b sl else pure (vB false)) h2 Q := by
  rw [evalE]; simp only [ok_bind]
@[simp ↓] theorem ok_or (a b : ME) (Q : RV → AH → Prop) : Ok (evalE C (.or_ a b) sl) h Q ↔ Ok (evalE C a sl) h fun x h1 => Ok (asBl x) h1 fun k h2 => Ok (if k then pure (vB true) else evalE C b sl) h2 Q := by
  rw [evalE]; simp only [ok_bind]
@[simp ↓] theorem ok_ite (c a b : ME) (Q : RV → AH → Prop) : Ok (evalE C (.ite c a b) sl) h Q ↔ Ok (evalE C c sl) h fun x h1 => Ok (asBl x) h1 fun k h2 => Ok (if k then evalE C a sl else evalE C b sl) h2 Q := by
  rw [evalE]; simp only [ok_bind]
@[simp ↓] theorem ok_chn (o1 o2 : BinO) (a b c : ME) (Q : RV → AH → Prop) : Ok (evalE C (.chn o1 o2 a b c) sl) h Q ↔ Ok (evalE C a sl) h fun x h1 => Ok (evalE C b sl) h1 fun y h2 => Ok (binSem o1 x y) h2 fun r h3 => Ok (asBl r) h3 fun k h4 =>
    Ok (if k then (do let z ← evalE C c sl; binSem o2 y z) else pure (vB false)) h4 Q := by
  rw [evalE]; simp only [ok_bind]
@[simp ↓] theorem ok_lst (xs : MEs) (Q : RV → AH → Prop) : Ok (evalE C (.lst xs) sl) h Q ↔ Ok (evalDs C xs sl) h fun ds h1 => ds.length ≤ sizeLine ∧ Q (.own ds) h1 := by
  rw [evalE]; simp only [ok_bind, ok_guard, ok_pure]
@[simp ↓] theorem ok_tup (xs : MEs) (Q : RV → AH → Prop) : Ok (evalE C (.tup xs) sl) h Q ↔ Ok (evalDs C xs sl) h fun ds h1 => ds.length ≤ sizeLine ∧ Q (.val (.tup ds)) h1 := by
  rw [evalE]; simp only [ok_bind, ok_guard, ok_pure]
@[simp ↓] theorem ok_blt (f : BltO) (xs : MEs) (Q : RV → AH → Prop) : Ok (evalE C (.blt f xs) sl) h Q ↔ Ok (evalEs C xs sl) h fun vs h1 => Ok (bltSem f vs) h1 Q := by
  rw [evalE]; simp only [ok_bind]
@[simp ↓] theorem ok_call (g : Nat) (xs : MEs) (Q : RV → AH → Prop) : Ok (evalE C (.call g xs) sl) h Q ↔ Ok (evalDs C xs sl) h fun vs h1 => Ok (C g vs) h1 Q := by
  rw [evalE]; simp only [ok_bind]
@[simp ↓] theorem ok_esN (Q : List RV → AH → Prop) : Ok (evalEs C .nil sl) h Q ↔ Q [] h := by unfold Ok; exact Iff.rfl
@[simp ↓] theorem ok_esC (a : ME) (r : MEs) (Q : List RV → AH → Prop) : Ok (evalEs C (.cons a r) sl) h Q ↔ Ok (evalE C a sl) h fun x h1 => Ok (evalEs C r sl) h1 fun xs h2 => Q (x :: xs) h2 := by
  rw [evalEs]; simp only [ok_bind, ok_pure]
@[simp ↓] theorem ok_dsN (Q : List D → AH → Prop) : Ok (evalDs C .nil sl) h Q ↔ Q [] h := by unfold Ok; exact Iff.rfl
@[simp ↓] theorem ok_dsC (a : ME) (r : MEs) (Q : List D → AH → Prop) : Ok (evalDs C (.cons a r) sl) h Q ↔ Ok (evalE C a sl) h fun x h1 => Ok (asD x) h1 fun d h2 => Ok (evalDs C r sl) h2 fun xs h3 => Q (d :: xs) h3 := by
  rw [evalDs]; simp only [ok_bind, ok_pure]
@[simp ↓] theorem ok_oN (Q : Option Int → AH → Prop) : Ok (evalO C .no sl) h Q ↔ Q none h := by unfold Ok; exact Iff.rfl
@[simp ↓] theorem ok_oY (a : ME) (Q : Option Int → AH → Prop) : Ok (evalO C (.yes a) sl) h Q ↔ Ok (evalE C a sl) h fun x h1 => Ok (asInt x) h1 fun i h2 => Q (some i) h2 := by
  rw [evalO]; simp only [ok_bind, ok_pure]
@[simp ↓] theorem ok_if (b : Bool) (m n : M α) (Q : α → AH → Prop) : Ok (if b = true then m else n) h Q ↔ if b = true then Ok m h Q else Ok n h Q := by
  cases b <;> simp
/-! ### operators -/
def big : Int := 2 ^ 1000
theorem lt_big {j : Int} (hj : j < 18446744073709551616) : j < big := Int.lt_trans hj (by decide +kernel)
@[simp ↓] theorem ok_int (op : BinO) (i j : Int) (Q : RV → AH → Prop) : Ok (binSem op (.val (.int i)) (.val (.int j))) h Q ↔ Ok (intOp op i j) h Q := by
  unfold Ok
  cases op <;> exact Iff.rfl
variable {i j : Int} {Q : RV → AH → Prop}
@[simp ↓] theorem i_add : Ok (intOp .add i j) h Q ↔ Q (.val (.int (i + j))) h := by unfold Ok; exact Iff.rfl
@[simp ↓] theorem i_sub : Ok (intOp .sub i j) h Q ↔ Q (.val (.int (i - j))) h := by unfold Ok; exact Iff.rfl
@[simp ↓] theorem i_mul : Ok (intOp .mul i j) h Q ↔ ((-(2 ^ 64) < i ∧ i < 2 ^ 64) ∨ (-(2 ^ 64) < j ∧ j < 2 ^ 64)) ∧ Q (.val (.int (i * j))) h := by
  unfold intOp; simp only [ok_bind, ok_guard, ok_pure]
@[simp ↓] theorem i_fdiv : Ok (intOp .fdiv i j) h Q ↔ (0 < j ∧ j < big) ∧ Q (.val (.int (i / j))) h := by
  unfold intOp big; simp only [ok_bind, ok_guard, ok_pure]
@[simp ↓] theorem i_mod : Ok (intOp .mod i j) h Q ↔ 0 < j ∧ Q (.val (.int (i % j))) h := by
  unfold intOp; simp only [ok_bind, ok_guard, ok_pure]
@[simp ↓] theorem i_pow : Ok (intOp .pow i j) h Q ↔ (0 ≤ j ∧ j ≤ 1000000 ∧ i.natAbs < 2 ^ 64) ∧ Q (.val (.int (i ^ j.toNat))) h := by
  unfold intOp; simp only [ok_bind, ok_guard, ok_pure]
@[simp ↓] theorem i_shl : Ok (intOp .shl i j) h Q ↔ (0 ≤ j ∧ j ≤ 1000000 ∧ i.natAbs < 2 ^ 64) ∧ Q (.val (.int (i * 2 ^ j.toNat))) h := by
  unfold intOp; simp only [ok_bind, ok_guard, ok_pure]
@[simp ↓] theorem i_shr : Ok (intOp .shr i j) h Q ↔ 0 ≤ j ∧ Q (.val (.int (i / 2 ^ j.toNat))) h := by
  unfold intOp; simp only [ok_bind, ok_guard, ok_pure]
@[simp ↓] theorem i_band : Ok (intOp .band i j) h Q ↔ Q (.val (.int (Builtin.bitAnd i j))) h := by unfold Ok; exact Iff.rfl
@[simp ↓] theorem i_bor : Ok (intOp .bor i j) h Q ↔ Q (.val (.int (Builtin.bitOr i j))) h := by unfold Ok; exact Iff.rfl
@[simp ↓] theorem i_bxor : Ok (intOp .bxor i j) h Q ↔ Q (.val (.int (Builtin.bitXor i j))) h := by unfold Ok; exact Iff.rfl
@[simp ↓] theorem i_eq : Ok (intOp .eq i j) h Q ↔ Q (.val (.bl (i == j))) h := by unfold Ok; exact Iff.rfl
@[simp ↓] theorem i_ne : Ok (intOp .ne i j) h Q ↔ Q (.val (.bl (!(i == j)))) h := by unfold Ok; exact Iff.rfl
@[simp ↓] theorem i_lt : Ok (intOp .lt i j) h Q ↔ Q (.val (.bl (decide (i < j)))) h := by unfold Ok; exact Iff.rfl
@[simp ↓] theorem i_le : Ok (intOp .le i j) h Q ↔ Q (.val (.bl (decide (i ≤ j)))) h := by unfold Ok; exact Iff.rfl
@[simp ↓] theorem i_gt : Ok (intOp .gt i j) h Q ↔ Q (.val (.bl (decide (j < i)))) h := by unfold Ok; exact Iff.rfl
@[simp ↓] theorem i_ge : Ok (intOp .ge i j) h Q ↔ Q (.val (.bl (decide (j ≤ i)))) h := by unfold Ok; exact Iff.rfl
@[simp ↓] theorem ok_ix (a : RV) : Ok (binSem .ix a (.val (.int i))) h Q ↔ optP (a.seq h) fun xs => optP (ixAt xs i) fun d => Q (.val d) h := by
  have e : Ok (binSem .ix a (.val (.int i))) h Q ↔ Ok (do let h ← getH; let xs ← opt (a.seq h); let d ← opt (ixAt xs i); pure (RV.val d)) h Q := by
    unfold Ok
    cases a with
    | val d => cases d <;> exact Iff.rfl
    | own xs => exact Iff.rfl
    | brw xs => exact Iff.rfl
  rw [e]
  simp only [ok_bind, ok_getH, ok_opt, ok_pure]
@[simp ↓] theorem ok_neg : Ok (unSem .neg (.val (.int i))) h Q ↔ Q (.val (.int (-i))) h := by unfold Ok; exact Iff.rfl
@[simp ↓] theorem ok_not {b : Bool} : Ok (unSem .not_ (.val (.bl b))) h Q ↔ Q (.val (.bl (!b))) h := by unfold Ok; exact Iff.rfl
@[simp ↓] theorem ok_isN {d : D} : Ok (unSem .isN (.val d)) h Q ↔ Q (.val (.bl d.isNon)) h := by unfold Ok; exact Iff.rfl
@[simp ↓] theorem ok_notN {d : D} : Ok (unSem .notN (.val d)) h Q ↔ Q (.val (.bl (!d.isNon))) h := by unfold Ok; exact Iff.rfl
@[simp ↓] theorem ok_len {a : RV} : Ok (bltSem .len [a]) h Q ↔ optP (a.seq h) fun xs => Q (.val (.int xs.length)) h := by
  unfold bltSem; simp only [ok_bind, ok_getH, ok_opt, ok_pure]
@[simp ↓] theorem ok_abs : Ok (bltSem .abs [.val (.int i)]) h Q ↔ Q (.val (.int (if i < 0 then -i else i))) h := by unfold Ok; exact Iff.rfl
@[simp ↓] theorem ok_min2 : Ok (bltSem .min2 [.val (.int i), .val (.int j)]) h Q ↔ Q (.val (.int (if j < i then j else i))) h := by unfold Ok; exact Iff.rfl
@[simp ↓] theorem ok_max2 : Ok (bltSem .max2 [.val (.int i), .val (.int j)]) h Q ↔ Q (.val (.int (if j > i then j else i))) h := by unfold Ok; exact Iff.rfl
@[simp ↓] theorem ok_list {a : RV} : Ok (bltSem .list_ [a]) h Q ↔ optP (a.seq h) fun xs => Q (.own xs) h := by
  unfold bltSem; simp only [ok_bind, ok_getH, ok_opt, ok_pure]
@[simp ↓] theorem ok_tuple {a : RV} : Ok (bltSem .tuple_ [a]) h Q ↔ optP (a.seq h) fun xs => Q (.val (.tup xs)) h := by
  unfold bltSem; simp only [ok_bind, ok_getH, ok_opt, ok_pure]
@[simp ↓] theorem ok_all {a : RV} : Ok (bltSem .all_ [a]) h Q ↔ optP (a.lst h) fun xs => optP (allBl xs) fun b => Q (.val (.bl b)) h := by
  unfold bltSem; simp only [ok_bind, ok_getH, ok_opt, ok_pure]
/-! ### statements -/
variable {P : Fl → Sl → AH → Prop}
@[simp ↓] theorem f_nil : OkF (execB C .nil sl) h P ↔ P .nx sl h := by unfold OkF; exact Iff.rfl
@[simp ↓] theorem f_cons (s : MS) (r : MSs) : OkF (execB C (.cons s r) sl) h P ↔ OkF (execS C s sl) h fun f sl' h' => match f with
    | .nx => OkF (execB C r sl') h' P
    | f => P f sl' h' := by
  unfold OkF
  rw [execB]
  unfold seqF
  cases e : execS C s sl h with
  | stuck => exact Iff.rfl
  | exc x sl' h' => exact Iff.rfl
  | ok f sl' h' => cases f <;> exact Iff.rfl
@[simp ↓] theorem f_ret0 (f : Fl) : OkF (retF f sl) h P ↔ P f sl h := by unfold OkF; exact Iff.rfl
@[simp ↓] theorem f_and (m : M α) (k : α → MF) : OkF (andE sl m k) h P ↔ Ok m h fun a h' => OkF (k a) h' P := by
  unfold OkF andE Ok
  cases m h <;> exact Iff.rfl
@[simp ↓] theorem f_put (i : Nat) (v : FV) : OkF (put i v sl) h P ↔ i < sl.length ∧ P .nx (sl.set i (some v)) h := by
  unfold OkF put
  by_cases q : i < sl.length
  · rw [if_pos q]; exact ⟨fun z => ⟨q, z⟩, fun z => z.2⟩
  · rw [if_neg q]; exact ⟨fun z => z.elim, fun z => (q z.1).elim⟩
@[simp ↓] theorem f_if (b : Bool) (m n : MF) : OkF (if b = true then m else n) h P ↔ if b = true then OkF m h P else OkF n h P := by
  cases b <;> simp
@[simp ↓] theorem f_set (i : Nat) (e : ME) : OkF (execS C (.set i e) sl) h P ↔ Ok (evalE C e sl) h fun x h1 => Ok (asD x) h1 fun d h2 => i < sl.length ∧ P .nx (sl.set i (some (.val d))) h2 := by
  rw [execS]; simp only [f_and, ok_bind, f_put]
@[simp ↓] theorem f_own (i : Nat) (e : ME) : OkF (execS C (.own i e) sl) h P ↔ Ok (evalE C e sl) h fun x h1 => Ok (ownOf x) h1 fun d h2 => i < sl.length ∧ P .nx (sl.set i (some (.own d))) h2 := by
  rw [execS]; simp only [f_and, ok_bind, f_put]
@[simp ↓] theorem f_heap (i : Nat) (e : ME) : OkF (execS C (.heap i e) sl) h P ↔ Ok (evalE C e sl) h fun x h1 => Ok (ownOf x) h1 fun d h2 => i < sl.length ∧ P .nx (sl.set i (some (.val (.ref h2.length)))) (h2 ++ [.lst d]) := by
  rw [execS]; simp only [f_and, ok_bind, f_put, ok_newHeap]
@[simp ↓] theorem f_par (tg : List Nat) (e : ME) : OkF (execS C (.par tg e) sl) h P ↔ Ok (evalE C e sl) h fun x h1 => Ok (asD x) h1 fun d h2 => optP (assign tg d sl) fun sl2 => P .nx sl2 h2 := by
  rw [execS]; simp only [f_and, ok_bind, ok_opt, f_ret0]
@[simp ↓] theorem f_aug (i : Nat) (op : BinO) (e : ME) : OkF (execS C (.aug i op e) sl) h P ↔ Ok (evalE C (.var i) sl) h fun x h1 => Ok (asInt x) h1 fun a h2 => Ok (evalE C e sl) h2 fun y h3 => Ok (asInt y) h3 fun b h4 => Ok (intOp op a b) h4 fun r h5 => Ok (asV r) h5 fun d h6 => i < sl.length ∧ P .nx (sl.set i (some (.val d))) h6 := by
  rw [execS]; simp only [f_and, ok_bind, f_put]
@[simp ↓] theorem f_setHx (o k e : ME) : OkF (execS C (.setHx o k e) sl) h P ↔ Ok (evalE C e sl) h fun x h1 => Ok (asD x) h1 fun d h2 => Ok (evalE C o sl) h2 fun p h3 => Ok (evalE C k sl) h3 fun y h4 => Ok (asInt y) h4 fun n h5 => Ok (heapL p) h5 fun q h6 =>
    optP (setAt q.2 n d) fun zs => P .nx sl (h6.set q.1 (.lst zs)) := by
  rw [execS]; simp only [f_and, ok_bind, ok_opt, ok_setHeap, f_ret0]
@[simp ↓] theorem f_expr (e : ME) : OkF (execS C (.expr e) sl) h P ↔ Ok (evalE C e sl) h fun _ h1 => P .nx sl h1 := by
  rw [execS]; simp only [f_and, f_ret0]
@[simp ↓] theorem f_ret (e : ME) : OkF (execS C (.ret e) sl) h P ↔ Ok (evalE C e sl) h fun x h1 => P (.rt x.out) sl h1 := by
  rw [execS]; simp only [f_and, f_ret0]
@[simp ↓] theorem f_retN : OkF (execS C .retN sl) h P ↔ P (.rt (.val .non)) sl h := by unfold OkF; exact Iff.rfl
@[simp ↓] theorem f_iff (c : ME) (a b : MSs) : OkF (execS C (.iff c a b) sl) h P ↔ Ok (evalE C c sl) h fun x h1 => Ok (asBl x) h1 fun k h2 => if k = true then OkF (execB C a sl) h2 P else OkF (execB C b sl) h2 P := by
  rw [execS]; simp only [f_and, ok_bind, f_if]
@[simp ↓] theorem f_pass : OkF (execS C .pass sl) h P ↔ P .nx sl h := by unfold OkF; exact Iff.rfl
@[simp ↓] theorem f_brk : OkF (execS C .brk sl) h P ↔ P .bk sl h := by unfold OkF; exact Iff.rfl
@[simp ↓] theorem f_cnt : OkF (execS C .cnt sl) h P ↔ P .ct sl h := by unfold OkF; exact Iff.rfl
@[simp ↓] theorem out_val (d : D) : (RV.val d).out = .val d := rfl
@[simp ↓] theorem out_own (d : List D) : (RV.own d).out = .own d := rfl
@[simp ↓] theorem out_brw (d : List D) : (RV.brw d).out = .own d := rfl
/-- a function's call -/
theorem ok_callF {f : Fn} {args : List D} (hl : args.length = f.np) : Ok (callF C f args) h Q ↔ OkF (execB C f.body (args.map (fun d => some (.val d)) ++ List.replicate (f.ns - f.np) none)) h fun fl _ h' => match fl with
    | .nx => Q (.val .non) h'
    | .rt v => Q v.out h'
    | _ => False := by
  unfold Ok OkF callF
  rw [if_pos hl]
  cases e : execB C f.body (args.map (fun d => some (.val d)) ++ List.replicate (f.ns - f.np) none) h with
  | stuck => exact Iff.rfl
  | exc x sl' h' => exact Iff.rfl
  | ok fl sl' h' => cases fl <;> exact Iff.rfl
theorem ok_callK {T : Nat → Option Fn} {k g : Nat} {f : Fn} {args : List D} (e : T g = some f) (hl : args.length = f.np) (w : OkF (execB (callK T k) f.body (args.map (fun d => some (.val d)) ++ List.replicate (f.ns - f.np) none)) h fun fl _ h' => match fl with
    | .nx => Q (.val .non) h'
    | .rt v => Q v.out h'
    | _ => False) : Ok (callK T (k + 1) g args) h Q := by
  have q := (ok_callF (C := callK T k) (Q := Q) hl).mpr w
  unfold callK
  rw [e]
  exact q
/-- an item of a walk, one after another: I i holds ahead of the i-th turn -/
theorem f_loop {turn : D → Sl → MF} (I : Nat → Sl → AH → Prop) : ∀ (ds : List D) (n : Nat) (sl : Sl) (h : AH), I n sl h →
    (∀ i d sl h, ds[i]? = some d → I (n + i) sl h → OkF (turn d sl) h fun f sl' h' => match f with
      | .nx => I (n + i + 1) sl' h'
      | .ct => I (n + i + 1) sl' h'
      | .bk => P .nx sl' h'
      | .rt v => P (.rt v) sl' h') →
    (∀ sl h, I (n + ds.length) sl h → P .nx sl h) → OkF (loopF turn ds sl) h P
  | [], n, sl, h, hi, _, he => by unfold OkF; exact he sl h hi
  | d :: r, n, sl, h, hi, ht, he => by
    have t := ht 0 d sl h rfl hi
    unfold OkF at t ⊢
    unfold loopF
    have again : ∀ sl' h', I (n + 1) sl' h' → OkF (loopF turn r sl') h' P := fun sl' h' hi' =>
      f_loop I r (n + 1) sl' h' hi' (fun i d sl h hd hI => by
        have e : n + 1 + i = n + (i + 1) := by omega
        rw [e] at hI ⊢
        exact ht (i + 1) d sl h (by simpa using hd) hI) fun sl h hI => he sl h (by
        have e : n + (d :: r).length = n + 1 + r.length := by simp; omega
        rw [e]; exact hI)
    cases e : turn d sl h with
    | stuck => rw [e] at t; exact t
    | exc x sl' h' => rw [e] at t; exact t
    | ok f sl' h' =>
      rw [e] at t
      cases f with
      | nx => have z := again sl' h' t; unfold OkF at z; exact z
      | ct => have z := again sl' h' t; unfold OkF at z; exact z
      | bk => exact t
      | rt v => exact t
@[simp ↓] theorem f_for (tg : List Nat) (it : MI) (b : MSs) : OkF (execS C (.for_ tg it b) sl) h P ↔ Ok (evalI C it sl) h fun items h1 => OkF (loopF (fun d sl => andE sl (opt (assign tg d sl)) fun sl2 => execB C b sl2) items sl) h1 P := by
  rw [execS]; simp only [f_and]
/-- a while: m bounds the turns -/
theorem f_while {c : ME} {b : MSs} (I : Sl → AH → Prop) (m : Sl → AH → Nat) (h0 : I sl h) (hm : m sl h < wMost)
    (ht : ∀ sl h, I sl h → Ok (evalE C c sl) h fun x h1 => Ok (asBl x) h1 fun k h2 => if k then OkF (execB C b sl) h2 (fun f sl' h' => match f with
      | .nx => I sl' h' ∧ m sl' h' < m sl h
      | .ct => I sl' h' ∧ m sl' h' < m sl h
      | .bk => P .nx sl' h'
      | .rt v => P (.rt v) sl' h') else P .nx sl h2) : OkF (execS C (.whl c b) sl) h P := by
  rw [execS]
  suffices w : ∀ n sl h, I sl h → m sl h < n → OkF (loopW (fun sl => do let x ← evalE C c sl; asBl x) (fun sl => execB C b sl) n sl) h P from w _ _ _ h0 hm
  intro n
  induction n with
  | zero => intro sl h _ z; omega
  | succ n ih =>
    intro sl h hI hn
    rw [loopW, f_and, ok_bind]
    refine (ht sl h hI).mono fun x h1 z => z.mono fun k h2 z => ?_
    cases k with
    | false => unfold OkF; exact z
    | true =>
      rw [if_pos rfl] at z ⊢
      unfold OkF at z ⊢
      dsimp only
      cases e : execB C b sl h2 with
      | stuck => rw [e] at z; exact z
      | exc x sl' h' => rw [e] at z; exact z
      | ok f sl' h' =>
        rw [e] at z
        cases f with
        | nx => have y := ih sl' h' z.1 (by have := z.2; omega); unfold OkF at y; exact y
        | ct => have y := ih sl' h' z.1 (by have := z.2; omega); unfold OkF at y; exact y
        | bk => exact z
        | rt v => exact z
end
end Wb

set_option maxHeartbeats 4000000
/-! The laws' own helpers in the small language, and what they compute. -/
namespace Wb
open PySem
def libBag : Fn := ⟨1, 1, (
    .cons (.ret (.lst (.cons (.blt .list_ (.cons (.cut (.var 0) .no (.yes (.cst (.int 63)))) .nil)) (.cons (.cst (.int 0)) (.cons (.cst (.int 0)) (.cons (.bin .add (.cst (.int 977)) (.blt .len (.cons (.cut (.var 0) .no (.yes (.cst (.int 63)))) .nil))) (.cons (.cst (.int 0)) .nil))))))) <| .nil)⟩
def libPick : Fn := ⟨2, 4, (
    .cons (.iff (.and_ (.bin .lt (.bin .ix (.var 0) (.cst (.int 2))) (.var 1)) (.bin .lt (.bin .ix (.var 0) (.cst (.int 1))) (.blt .len (.cons (.bin .ix (.var 0) (.cst (.int 0))) .nil)))) (
      .cons (.set 2 (.bin .ix (.bin .ix (.var 0) (.cst (.int 0))) (.bin .ix (.var 0) (.cst (.int 1))))) <|
      .cons (.setHx (.var 0) (.cst (.int 1)) (.bin .add (.bin .ix (.var 0) (.cst (.int 1))) (.cst (.int 1)))) <|
      .cons (.setHx (.var 0) (.cst (.int 3)) (.bin .mod (.bin .add (.bin .add (.bin .mul (.bin .ix (.var 0) (.cst (.int 3))) (.cst (.int 48271))) (.var 2)) (.bin .ix (.var 0) (.cst (.int 1)))) (.cst (.int 2147483629)))) <|
      .cons (.setHx (.var 0) (.cst (.int 2)) (.ite (.bin .ge (.var 2) (.bin .pow (.cst (.int 10)) (.cst (.int 18)))) (.var 2) (.cst (.int 0)))) <| .nil) .nil) <|
    .cons (.iff (.bin .ge (.bin .ix (.var 0) (.cst (.int 2))) (.var 1)) (
      .cons (.set 3 (.bin .mod (.bin .ix (.var 0) (.cst (.int 2))) (.var 1))) <|
      .cons (.setHx (.var 0) (.cst (.int 2)) (.bin .fdiv (.bin .ix (.var 0) (.cst (.int 2))) (.var 1))) <|
      .cons (.ret (.var 3)) <| .nil) .nil) <|
    .cons (.setHx (.var 0) (.cst (.int 4)) (.bin .add (.bin .ix (.var 0) (.cst (.int 4))) (.cst (.int 1)))) <|
    .cons (.setHx (.var 0) (.cst (.int 3)) (.bin .mod (.bin .add (.bin .add (.bin .add (.bin .pow (.bin .ix (.var 0) (.cst (.int 3))) (.cst (.int 3))) (.bin .mul (.cst (.int 40503)) (.bin .ix (.var 0) (.cst (.int 4))))) (.bin .fdiv (.bin .ix (.var 0) (.cst (.int 3))) (.cst (.int 65537)))) (.cst (.int 11))) (.cst (.int 2147483629)))) <|
    .cons (.ret (.bin .mod (.bin .fdiv (.bin .ix (.var 0) (.cst (.int 3))) (.cst (.int 16))) (.var 1))) <| .nil)⟩
def libOf (gp : Nat) : Fn := ⟨2, 2, (
    .cons (.ret (.bin .ix (.var 1) (.call gp (.cons (.var 0) (.cons (.blt .len (.cons (.var 1) .nil)) .nil))))) <| .nil)⟩
def libSame (g : Nat) : Fn := ⟨2, 3, (
    .cons (.iff (.una .isN (.var 1)) (
      .cons (.ret (.una .isN (.var 0))) <| .nil) .nil) <|
    .cons (.iff (.or_ (.blt (.isi [.bool]) (.cons (.var 1) .nil)) (.blt (.isi [.bool]) (.cons (.var 0) .nil))) (
      .cons (.ret (.and_ (.blt (.isi [.bool]) (.cons (.var 1) .nil)) (.and_ (.blt (.isi [.bool]) (.cons (.var 0) .nil)) (.bin .eq (.var 0) (.var 1))))) <| .nil) .nil) <|
    .cons (.iff (.blt (.isi [.int, .str]) (.cons (.var 1) .nil)) (
      .cons (.ret (.and_ (.blt (.isi [.int, .str]) (.cons (.var 0) .nil)) (.and_ (.bin .eq (.blt (.isi [.int]) (.cons (.var 0) .nil)) (.blt (.isi [.int]) (.cons (.var 1) .nil))) (.bin .eq (.var 0) (.var 1))))) <| .nil) .nil) <|
    .cons (.iff (.or_ (.bin .ne (.blt (.isi [.list]) (.cons (.var 1) .nil)) (.blt (.isi [.list]) (.cons (.var 0) .nil))) (.bin .ne (.blt (.isi [.tuple]) (.cons (.var 1) .nil)) (.blt (.isi [.tuple]) (.cons (.var 0) .nil)))) (
      .cons (.ret (.cst (.bl false))) <| .nil) .nil) <|
    .cons (.iff (.or_ (.una .not_ (.blt (.isi [.list, .tuple]) (.cons (.var 0) .nil))) (.bin .ne (.blt .len (.cons (.var 0) .nil)) (.blt .len (.cons (.var 1) .nil)))) (
      .cons (.ret (.cst (.bl false))) <| .nil) .nil) <|
    .cons (.ret (.blt .all_ (.cons (.cmp (.call g (.cons (.bin .ix (.var 0) (.var 2)) (.cons (.bin .ix (.var 1) (.var 2)) .nil))) [2] (.rng1 (.blt .len (.cons (.var 1) .nil))) .no [2]) .nil))) <| .nil)⟩
theorem ix_nat {xs : List D} {i : Nat} : ixAt xs (i : Int) = xs[i]? := by
  unfold ixAt L2.atI L2.ixN
  by_cases h : i < xs.length
  · simp [h]
  · simp [h]
theorem ix_ok {xs : List D} {i : Int} (h : 0 ≤ i) : ixAt xs i = xs[i.toNat]? := by
  have e : i = (i.toNat : Int) := by omega
  rw [e, ix_nat]
  rfl
@[simp] theorem ix_zero {xs : List D} : ixAt xs 0 = xs[0]? := ix_nat (i := 0)
@[simp] theorem ix_one {xs : List D} : ixAt xs 1 = xs[1]? := ix_nat (i := 1)
@[simp] theorem ix_lit {xs : List D} {n : Nat} : ixAt xs (no_index (OfNat.ofNat n : Int)) = xs[n]? := ix_nat (i := n)
theorem setAt_nat {xs : List D} {i : Nat} {d : D} : setAt xs (i : Int) d = if i < xs.length then some (xs.set i d) else none := by
  unfold setAt L2.ixN
  by_cases h : i < xs.length
  · simp [h]
  · simp [h]
@[simp] theorem setAt_zero {xs : List D} {d : D} : setAt xs 0 d = if 0 < xs.length then some (xs.set 0 d) else none := setAt_nat (i := 0)
@[simp] theorem setAt_one {xs : List D} {d : D} : setAt xs 1 d = if 1 < xs.length then some (xs.set 1 d) else none := setAt_nat (i := 1)
@[simp] theorem setAt_lit {xs : List D} {d : D} {n : Nat} : setAt xs (no_index (OfNat.ofNat n : Int)) d = if n < xs.length then some (xs.set n d) else none := setAt_nat (i := n)
@[simp] theorem seq_lst {h : AH} {xs : List D} : RV.seq h (.val (.lst xs)) = some xs := rfl
@[simp] theorem seq_tup {h : AH} {xs : List D} : RV.seq h (.val (.tup xs)) = some xs := rfl
@[simp] theorem seq_own {h : AH} {xs : List D} : RV.seq h (.own xs) = some xs := rfl
@[simp] theorem seq_brw {h : AH} {xs : List D} : RV.seq h (.brw xs) = some xs := rfl
@[simp] theorem seq_scr {h : AH} {xs : List Int} : RV.seq h (.val (.scr xs)) = some (xs.map .int) := rfl
@[simp] theorem lst_lst {h : AH} {xs : List D} : RV.lst h (.val (.lst xs)) = some xs := rfl
@[simp] theorem lst_own {h : AH} {xs : List D} : RV.lst h (.own xs) = some xs := rfl
@[simp] theorem lst_brw {h : AH} {xs : List D} : RV.lst h (.brw xs) = some xs := rfl
theorem ref_iff {h : AH} {t : Nat} {xs : List D} : RV.seq h (.val (.ref t)) = some xs ↔ h[t]? = some (.lst xs) := by
  show (match h[t]? with | some (.lst xs) => some xs | _ => none) = some xs ↔ _
  cases e : h[t]? with
  | none => exact ⟨fun z => by simp at z, fun z => by cases z⟩
  | some o =>
    cases o with
    | lst ys => exact ⟨fun z => by simp at z; rw [z], fun z => by cases z; rfl⟩
    | ins c fs => exact ⟨fun z => by simp at z, fun z => by cases z⟩
structure BagC where
  cells : List Int
  p : Int
  v : Int
  s : Int
  c : Int
def BagC.lst (b : BagC) : List D := [.lst (b.cells.map .int), .int b.p, .int b.v, .int b.s, .int b.c]
structure BagC.Ok (b : BagC) : Prop where
  p : 0 ≤ b.p
  v : 0 ≤ b.v
  s : 0 ≤ b.s
  sM : b.s < 2147483629
def BagAt (h : AH) (t : Nat) : Prop := ∃ b : BagC, h[t]? = some (.lst b.lst) ∧ b.Ok
theorem ref_lst {h : AH} {t : Nat} {xs : List D} (e : h[t]? = some (.lst xs)) : (RV.val (.ref t)).lst h = some xs := by
  show (match h[t]? with | some (.lst xs) => some xs | _ => none) = _
  rw [e]
theorem ref_seq {h : AH} {t : Nat} {xs : List D} (e : h[t]? = some (.lst xs)) : (RV.val (.ref t)).seq h = some xs := ref_lst e
theorem lst_seq {h : AH} {xs : List D} : (RV.val (.lst xs)).seq h = some xs := rfl
theorem set_at {h : AH} {t : Nat} {o o' : AO} (e : h[t]? = some o) : (h.set t o')[t]? = some o' := by
  have l : t < h.length := by
    rcases Nat.lt_or_ge t h.length with q | q
    · exact q
    · rw [List.getElem?_eq_none q] at e; cases e
  rw [List.getElem?_set_self l]
theorem set_same_ {h : AH} {t : Nat} {o : AO} (e : h[t]? = some o) : h.set t o = h := by
  apply List.ext_getElem?
  intro i
  by_cases q : t = i
  · subst q; rw [set_at e, e]
  · rw [List.getElem?_set_ne q]
/-- a turn of the bag with a cell -/
def draw (b : BagC) (top : Int) : BagC :=
  if b.v < top ∧ b.p < b.cells.length then
    let cell := (b.cells[b.p.toNat]?).getD 0
    { b with p := b.p + 1, s := (b.s * 48271 + cell + (b.p + 1)) % 2147483629, v := if 10 ^ 18 ≤ cell then cell else 0 }
  else b
def pickB (b : BagC) (top : Int) : Int × BagC :=
  let b := draw b top
  if top ≤ b.v then (b.v % top, { b with v := b.v / top })
  else
    let s := (b.s ^ 3 + 40503 * (b.c + 1) + b.s / 65537 + 11) % 2147483629
    (s / 16 % top, { b with c := b.c + 1, s := s })
theorem draw_ok {b : BagC} (o : b.Ok) (top : Int) : (draw b top).Ok := by
  unfold draw
  split
  · obtain ⟨o1, o2, o3, o4⟩ := o
    refine ⟨by dsimp only; omega, ?_, Int.emod_nonneg _ (by decide), Int.emod_lt_of_pos _ (by decide)⟩
    dsimp only
    split <;> omega
  · exact o
theorem pickB_ok {b : BagC} (o : b.Ok) {top : Int} (ht : 0 < top) : 0 ≤ (pickB b top).1 ∧ (pickB b top).1 < top ∧ (pickB b top).2.Ok := by
  have o' := draw_ok o top
  unfold pickB
  dsimp only
  split
  · exact ⟨Int.emod_nonneg _ (by omega), Int.emod_lt_of_pos _ ht, o'.p, Int.ediv_nonneg o'.v (by omega), o'.s, o'.sM⟩
  · exact ⟨Int.emod_nonneg _ (by omega), Int.emod_lt_of_pos _ ht, o'.p, o'.v, Int.emod_nonneg _ (by decide), Int.emod_lt_of_pos _ (by decide)⟩
theorem draw_lst (b : BagC) (top : Int) : (draw b top).lst = (draw b top).lst := rfl
theorem pick_run (C : Callee) {h : AH} {t : Nat} {b : BagC} {top : Int} (e : h[t]? = some (.lst b.lst)) (o : b.Ok) (ht : 0 < top) (ht2 : top < 18446744073709551616) {Q : RV → AH → Prop} (q : Q (.val (.int (pickB b top).1)) (h.set t (.lst (pickB b top).2.lst))) :
    Ok (callF C libPick [.ref t, .int top]) h Q := by
  rw [ok_callF rfl]
  unfold libPick
  rw [f_cons]
  have first : OkF (execS C (.iff (.and_ (.bin .lt (.bin .ix (.var 0) (.cst (.int 2))) (.var 1)) (.bin .lt (.bin .ix (.var 0) (.cst (.int 1))) (.blt .len (.cons (.bin .ix (.var 0) (.cst (.int 0))) .nil)))) (
      .cons (.set 2 (.bin .ix (.bin .ix (.var 0) (.cst (.int 0))) (.bin .ix (.var 0) (.cst (.int 1))))) <|
      .cons (.setHx (.var 0) (.cst (.int 1)) (.bin .add (.bin .ix (.var 0) (.cst (.int 1))) (.cst (.int 1)))) <|
      .cons (.setHx (.var 0) (.cst (.int 3)) (.bin .mod (.bin .add (.bin .add (.bin .mul (.bin .ix (.var 0) (.cst (.int 3))) (.cst (.int 48271))) (.var 2)) (.bin .ix (.var 0) (.cst (.int 1)))) (.cst (.int 2147483629)))) <|
      .cons (.setHx (.var 0) (.cst (.int 2)) (.ite (.bin .ge (.var 2) (.bin .pow (.cst (.int 10)) (.cst (.int 18)))) (.var 2) (.cst (.int 0)))) <| .nil) .nil) [some (.val (.ref t)), some (.val (.int top)), none, none]) h
      fun f sl' h' => f = .nx ∧ (∃ x y, sl' = [some (.val (.ref t)), some (.val (.int top)), x, y]) ∧ h' = h.set t (.lst (draw b top).lst) := by
    obtain ⟨cells, p, v, s, c⟩ := b
    have e0 : h[t]? = some (.lst [.lst (cells.map .int), .int p, .int v, .int s, .int c]) := e
    have e1 := ref_seq e0
    obtain ⟨op, ov, os, oM⟩ := o
    dsimp only at op ov os oM
    have tl2 : ∀ o, (h.set t o)[t]? = some o := fun o => set_at e0
    have tl3 : ∀ xs, RV.seq (h.set t (.lst xs)) (.val (.ref t)) = some xs := fun xs => ref_seq (set_at e0)
    by_cases c1 : v < top
    · by_cases c2 : p < cells.length
      · have cl : p.toNat < cells.length := by omega
        simp [e0, e1, tl2, tl3, c1, c2, ix_ok op, cl, draw, BagC.lst]
        by_cases z : (1000000000000000000 : Int) ≤ cells[p.toNat]
        · rw [if_pos z, if_pos z]
        · rw [if_neg z, if_neg z]
      · simp [e0, e1, tl2, tl3, c1, c2, draw, BagC.lst]
        exact (set_same_ e0).symm
    · simp [e0, e1, tl2, tl3, c1, draw, BagC.lst]
      exact (set_same_ e0).symm
  refine first.mono fun f sl' h' z => ?_
  obtain ⟨rfl, ⟨x, y, rfl⟩, rfl⟩ := z
  have od := draw_ok o top
  have q' : Q (.val (.int (if top ≤ (draw b top).v then ((draw b top).v % top, { draw b top with v := (draw b top).v / top }) else
    ((((draw b top).s ^ 3 + 40503 * ((draw b top).c + 1) + (draw b top).s / 65537 + 11) % 2147483629) / 16 % top, { draw b top with c := (draw b top).c + 1, s := ((draw b top).s ^ 3 + 40503 * ((draw b top).c + 1) + (draw b top).s / 65537 + 11) % 2147483629 })).1))
    (h.set t (.lst (if top ≤ (draw b top).v then ((draw b top).v % top, { draw b top with v := (draw b top).v / top }) else
    ((((draw b top).s ^ 3 + 40503 * ((draw b top).c + 1) + (draw b top).s / 65537 + 11) % 2147483629) / 16 % top, { draw b top with c := (draw b top).c + 1, s := ((draw b top).s ^ 3 + 40503 * ((draw b top).c + 1) + (draw b top).s / 65537 + 11) % 2147483629 })).2.lst)) := q
  clear q first
  generalize draw b top = b2 at q' od ⊢
  obtain ⟨cells, p, v, s, c⟩ := b2
  obtain ⟨op, ov, os, oM⟩ := od
  dsimp only at op ov os oM q' ⊢
  have tl2 : ∀ o, (h.set t o)[t]? = some o := fun o => set_at e
  have tl3 : ∀ xs, RV.seq (h.set t (.lst xs)) (.val (.ref t)) = some xs := fun xs => ref_seq (set_at e)
  have s64 : s.natAbs < 18446744073709551616 := by omega
  by_cases c1 : top ≤ v
  · rw [if_pos c1] at q'
    simp only [BagC.lst] at q' ⊢
    simp [tl2, tl3, c1, ht, q', lt_big, ht2]
  · rw [if_neg c1] at q'
    simp only [BagC.lst] at q' ⊢
    simp [tl2, tl3, c1, ht, s64, q', lt_big]
/-- the bag is at t -/
def BagH (h : AH) (t : Nat) : Prop := ∃ b : BagC, h[t]? = some (.lst b.lst) ∧ b.Ok
/-- what a pick changes -/
structure Picked (t : Nat) (h h' : AH) : Prop where
  bag : BagH h' t
  len : h'.length = h.length
  rest : ∀ u, u ≠ t → h'[u]? = h[u]?
theorem Picked.trans {t : Nat} {h h' h2 : AH} (a : Picked t h h') (b : Picked t h' h2) : Picked t h h2 := ⟨b.bag, b.len.trans a.len, fun u hu => (b.rest u hu).trans (a.rest u hu)⟩
theorem Picked.refl {t : Nat} {h : AH} (a : BagH h t) : Picked t h h := ⟨a, rfl, fun _ _ => rfl⟩
section
variable {T : Nat → Option Fn} {k gp go gb gs t : Nat} {h : AH} {Q : RV → AH → Prop}
theorem pick_spec (hT : T gp = some libPick) {top : Int} (hb : BagH h t) (ht : 0 < top) (ht2 : top < 18446744073709551616) (q : ∀ d h', 0 ≤ d → d < top → Picked t h h' → Q (.val (.int d)) h') : Ok (callK T (k + 1) gp [.ref t, .int top]) h Q := by
  obtain ⟨b, e, o⟩ := hb
  have z := pick_run (callK T k) e o ht ht2 (Q := Q) (by
    obtain ⟨o1, o2, o3⟩ := pickB_ok o ht
    exact q _ _ o1 o2 ⟨⟨_, set_at e, o3⟩, List.length_set, fun u hu => List.getElem?_set_ne (fun z => hu z.symm)⟩)
  unfold callK
  rw [hT]
  exact z
theorem of_spec (hO : T go = some (libOf gp)) (hT : T gp = some libPick) {xs : List D} (hb : BagH h t) (h0 : 0 < xs.length) (h1 : xs.length < 18446744073709551616) (q : ∀ (i : Nat) d h', xs[i]? = some d → Picked t h h' → Q (.val d) h') : Ok (callK T (k + 2) go [.ref t, .lst xs]) h Q := by
  refine ok_callK hO rfl ?_
  unfold libOf
  simp
  refine pick_spec hT hb (by omega) (by omega) fun d h' d0 d1 p => ?_
  simp
  have l : d.toNat < xs.length := by omega
  have ex : ixAt xs d = some xs[d.toNat] := by rw [ix_ok d0, List.getElem?_eq_getElem l]
  simp [ex]
  exact q d.toNat _ h' (List.getElem?_eq_getElem l) p
theorem bag_spec (hT : T gb = some libBag) {ns : List Int} (hl : ns.length ≤ 63) (q : ∀ b : BagC, b.Ok → Q (.own b.lst) h) : Ok (callK T (k + 1) gb [.scr ns]) h Q := by
  refine ok_callK hT rfl ?_
  unfold libBag
  have c : cutD (ns.map D.int) none (some 63) = ns.map D.int := by
    unfold cutD HT.sIx
    simp
    exact List.take_of_length_le (by rw [List.length_map]; omega)
  have s5 : 5 ≤ sizeLine := by decide
  have e : ∀ Q : RV → AH → Prop, Ok (evalE (callK T k) (.cut (.var 0) .no (.yes (.cst (.int 63)))) [some (.val (.scr ns))]) h Q ↔ Q (.own (ns.map .int)) h := by
    intro Q
    rw [evalE]
    simp only [ok_bind, ok_var, ok_oN, ok_oY, ok_cst, ok_asInt, ok_getH]
    simp [c]
  simp [e, s5]
  exact q ⟨ns, 0, 0, 977 + ns.length, 0⟩ ⟨by simp, by simp, by dsimp only; omega, by dsimp only; omega⟩
end
end Wb

set_option maxHeartbeats 400000
/-! The laws' comparison of data, of the same thing twice. -/
namespace Wb
open PySem
mutual
/-- data that the laws compare, of depth at most n -/
def pln : Nat → D → Bool
  | _, .non => true
  | _, .bl _ => true
  | _, .int _ => true
  | _, .str _ => true
  | n + 1, .tup xs => plnL n xs
  | n + 1, .lst xs => plnL n xs
  | _, _ => false
def plnL : Nat → List D → Bool
  | _, [] => true
  | n, d :: r => pln n d && plnL n r
end
theorem plnL_get : ∀ {xs : List D} {n i : Nat} {d : D}, plnL n xs = true → xs[i]? = some d → pln n d = true
  | [], n, i, d, _, h => by simp at h
  | x :: xs, n, 0, d, a, h => by
    have e : x = d := by simpa using h
    subst e
    unfold plnL at a
    exact (Bool.and_eq_true_iff.mp a).1
  | x :: xs, n, i + 1, d, a, h => by
    unfold plnL at a
    exact plnL_get (Bool.and_eq_true_iff.mp a).2 (by simpa using h)
section
variable {T : Nat → Option Fn} {gs : Nat} {h : AH} {Q : RV → AH → Prop} {C : Callee} {sl : Sl}
@[simp ↓] theorem ok_isi {cs : List Cls} {d : D} : Ok (bltSem (.isi cs) [.val d]) h Q ↔ (match d with
    | .non => Q (vB false) h
    | _ => optP (d.kind h) fun k => Q (vB (cs.any fun c => k.under c)) h) := by
  cases d <;> unfold bltSem <;> simp [ok_bind, ok_getH, ok_opt, ok_pure]
@[simp ↓] theorem ok_rng1 {a : ME} {R : List D → AH → Prop} : Ok (evalI C (.rng1 a) sl) h R ↔ Ok (evalE C a sl) h fun x h1 => Ok (asInt x) h1 fun i h2 => chk62 i ∧ R (rngL 0 1 i.toNat) h2 := by
  rw [evalI]; simp only [ok_bind, ok_guard, ok_pure]
@[simp ↓] theorem ok_rng2 {a b : ME} {R : List D → AH → Prop} : Ok (evalI C (.rng2 a b) sl) h R ↔ Ok (evalE C a sl) h fun x h1 => Ok (evalE C b sl) h1 fun y h2 => Ok (asInt x) h2 fun i h3 => Ok (asInt y) h3 fun j h4 => (chk62 i ∧ chk62 j) ∧ R (rngL i 1 (j - i).toNat) h4 := by
  rw [evalI]; simp only [ok_bind, ok_guard, ok_pure]
@[simp ↓] theorem ok_cmp {e : ME} {tg : List Nat} {it : MI} {c : MO} {ws : List Nat} : Ok (evalE C (.cmp e tg it c ws) sl) h Q ↔ Ok (evalI C it sl) h fun items h1 => Ok (compL (fun d => do
      let sl2 ← opt (assign tg d (wipe sl ws))
      let k ← evalC C c sl2
      if k then do let d' ← (do let y ← evalE C e sl2; asD y); pure (some d') else pure none) [] items) h1 fun ys h2 => Q (.own ys) h2 := by
  rw [evalE]; simp only [ok_bind, ok_pure]
/-- a comprehension whose items are each what f says, the heap at rest -/
theorem ok_compL {turn : D → M (Option D)} {f : D → D} : ∀ (ds acc : List D) (R : List D → AH → Prop), (∀ d ∈ ds, ∀ R : Option D → AH → Prop, R (some (f d)) h → Ok (turn d) h R) → acc.length + ds.length ≤ sizeLine → R (acc ++ ds.map f) h → Ok (compL turn acc ds) h R
  | [], acc, R, _, _, q => by simpa [compL] using q
  | d :: r, acc, R, w, hl, q => by
    rw [compL, ok_bind]
    refine w d (by simp) _ ?_
    simp only [ok_bind, ok_guard]
    rw [List.length_cons] at hl
    refine ⟨by omega, ok_compL r _ R (fun d hd => w d (by simp [hd])) (by simp; omega) ?_⟩
    simpa using q
theorem allBl_true : ∀ ds : List D, allBl (ds.map fun _ => .bl true) = some true
  | [] => rfl
  | d :: r => by
    rw [List.map_cons]
    unfold allBl
    rw [allBl_true r]; rfl
theorem rng0_map : ∀ (n : Nat) (lo : Int), ∀ d ∈ rngL lo 1 n, ∃ i : Nat, i < n ∧ d = .int (lo + i)
  | 0, lo, d, h => by unfold rngL at h; simp at h
  | n + 1, lo, d, h => by
    unfold rngL at h
    rcases List.mem_cons.mp h with e | h
    · exact ⟨0, by omega, by rw [e]; simp⟩
    · obtain ⟨i, hi, e⟩ := rng0_map n _ d h
      exact ⟨i + 1, by omega, by rw [e]; congr 1; omega⟩
theorem rngL_len (c : Int) : ∀ (n : Nat) (lo : Int), (rngL lo c n).length = n
  | 0, _ => rfl
  | n + 1, lo => by unfold rngL; rw [List.length_cons, rngL_len c n]
theorem eqv_str {s : Str} (so : PyData.strOk s = true) : Ok (binSem .eq (.val (.str s)) (.val (.str s))) h Q ↔ Q (.val (.bl true)) h := by
  have e : Ok (binSem .eq (.val (.str s)) (.val (.str s))) h Q ↔ (SeqAt.shaped (.str s) = true ∧ SeqAt.shaped (.str s) = true) ∧ Q (vB (PyData.eqv (.str s) (.str s))) h := by
    show Ok (do let h ← getH; let p ← opt ((RV.val (.str s)).py h); let q ← opt ((RV.val (.str s)).py h); guardM (SeqAt.shaped p = true ∧ SeqAt.shaped q = true); pure (vB (PyData.eqv p q))) h Q ↔ _
    simp [RV.py, D.py]
  rw [e]
  have sh : SeqAt.shaped (.str s) = true := by unfold SeqAt.shaped; simp [PyData.canLay0, PyData.depth, so]
  simp [PyData.eqv, sh]
theorem sh_bl (b : Bool) : SeqAt.shaped (.bool b) = true := by unfold SeqAt.shaped; simp [PyData.canLay0, PyData.depth]
@[simp ↓] theorem eq_bl (a b : Bool) : Ok (binSem .eq (.val (.bl a)) (.val (.bl b))) h Q ↔ Q (.val (.bl (a == b))) h := by
  have e : Ok (binSem .eq (.val (.bl a)) (.val (.bl b))) h Q ↔ (SeqAt.shaped (.bool a) = true ∧ SeqAt.shaped (.bool b) = true) ∧ Q (vB (PyData.eqv (.bool a) (.bool b))) h := by
    show Ok (do let h ← getH; let p ← opt ((RV.val (.bl a)).py h); let q ← opt ((RV.val (.bl b)).py h); guardM (SeqAt.shaped p = true ∧ SeqAt.shaped q = true); pure (vB (PyData.eqv p q))) h Q ↔ _
    simp [RV.py, D.py]
  rw [e]
  cases a <;> cases b <;> simp [PyData.eqv, sh_bl]
@[simp ↓] theorem ne_bl (a b : Bool) : Ok (binSem .ne (.val (.bl a)) (.val (.bl b))) h Q ↔ Q (.val (.bl (!(a == b)))) h := by
  have e : Ok (binSem .ne (.val (.bl a)) (.val (.bl b))) h Q ↔ (SeqAt.shaped (.bool a) = true ∧ SeqAt.shaped (.bool b) = true) ∧ Q (vB (!PyData.eqv (.bool a) (.bool b))) h := by
    show Ok (do let h ← getH; let p ← opt ((RV.val (.bl a)).py h); let q ← opt ((RV.val (.bl b)).py h); guardM (SeqAt.shaped p = true ∧ SeqAt.shaped q = true); pure (vB (!PyData.eqv p q))) h Q ↔ _
    simp [RV.py, D.py]
  rw [e]
  cases a <;> cases b <;> simp [PyData.eqv, sh_bl]
end
end Wb

set_option maxHeartbeats 4000000
namespace Wb
open PySem
section
variable {T : Nat → Option Fn} {gs : Nat} {h : AH} {Q : RV → AH → Prop} {C : Callee} {sl : Sl}
theorem same_flat (hS : T gs = some (libSame gs)) {k : Nat} {d : D} (hd : d.isFlat = true) (so : ∀ s, d = .str s → PyData.strOk s = true) (q : Q (.val (.bl true)) h) : Ok (callK T (k + 1) gs [d, d]) h Q := by
  refine ok_callK hS rfl ?_
  unfold libSame
  cases d <;> first | exact Bool.noConfusion (show false = true from hd) | skip
  · simp [D.isNon, q]
  · simp [D.isNon, D.kind, Cls.under, q]
  · simp [D.isNon, D.kind, Cls.under, q]
  · simp [D.isNon, D.kind, Cls.under, eqv_str (so _ rfl), q]
end
end Wb

set_option maxHeartbeats 400000
namespace Wb
open PySem
section
variable {T : Nat → Option Fn} {gs : Nat} {h : AH} {Q : RV → AH → Prop} {C : Callee} {sl : Sl}
theorem same_seq (hS : T gs = some (libSame gs)) {k : Nat} {xs : List D} {d : D} (hd : d = .lst xs ∨ d = .tup xs) (hl : xs.length ≤ 1000000) (w : ∀ (i : Nat) e, xs[i]? = some e → ∀ R : RV → AH → Prop, R (.val (.bl true)) h → Ok (callK T k gs [e, e]) h R)
    (q : Q (.val (.bl true)) h) : Ok (callK T (k + 1) gs [d, d]) h Q := by
  refine ok_callK hS rfl ?_
  have sz : 1000000 ≤ sizeLine := by decide
  have ch : chk62 (xs.length : Int) := by unfold chk62; omega
  have fin : ∀ R : List D → AH → Prop, R ((rngL 0 1 xs.length).map fun _ => D.bl true) h → Ok (compL (fun a => do
      let sl2 ← opt (assign [2] a [some (.val d), some (.val d), none])
      let k_1 ← evalC (callK T k) .no sl2
      if k_1 = true then do let d' ← (do let y ← evalE (callK T k) (.call gs (.cons (.bin .ix (.var 0) (.var 2)) (.cons (.bin .ix (.var 1) (.var 2)) .nil))) sl2; asD y); pure (some d') else pure none) [] (rngL 0 1 xs.length)) h R := by
    intro R z
    refine ok_compL (f := fun _ => .bl true) _ [] R (fun a ha R z => ?_) (by rw [rngL_len]; simp; omega) (by simpa using z)
    obtain ⟨i, hi, rfl⟩ := rng0_map _ _ a ha
    rw [Int.zero_add]
    have es : RV.seq h (.val d) = some xs := by rcases hd with rfl | rfl <;> rfl
    simp [Wb.assign, evalC, es, ix_nat, List.getElem?_eq_getElem hi]
    exact w i _ (List.getElem?_eq_getElem hi) _ (by simpa using z)
  unfold libSame
  rcases hd with rfl | rfl
  · simp [D.isNon, D.kind, Cls.under, ch, wipe]
    refine fin _ ?_
    simp [allBl_true]
    exact q
  · simp [D.isNon, D.kind, Cls.under, ch, wipe]
    refine fin _ ?_
    simp [allBl_true]
    exact q
end
end Wb

set_option maxHeartbeats 400000
/-! One statement at a time. -/
namespace Wb
open PySem
section
variable {h : AH} {C : Callee} {sl : Sl} {P : Fl → Sl → AH → Prop}
theorem le_size {n : Nat} (hn : n ≤ 1000000) : n ≤ sizeLine := Nat.le_trans hn (by decide)
/-- a statement; what comes behind stays out of sight -/
theorem f_step {s : MS} {r : MSs} (w : ∀ K : Fl → Sl → AH → Prop, (∀ sl h, OkF (execB C r sl) h P → K .nx sl h) → (∀ v sl h, P (.rt v) sl h → K (.rt v) sl h) → (∀ sl h, P .bk sl h → K .bk sl h) → (∀ sl h, P .ct sl h → K .ct sl h) → OkF (execS C s sl) h K) : OkF (execB C (.cons s r) sl) h P := by
  rw [f_cons]
  exact w _ (fun _ _ z => z) (fun _ _ _ z => z) (fun _ _ z => z) (fun _ _ z => z)
theorem f_end (w : P .nx sl h) : OkF (execB C .nil sl) h P := f_nil.mpr w
/-- a turn's target -/
theorem f_turn {tg : List Nat} {d : D} {b : MSs} {sl2 : Sl} (e : assign tg d sl = some sl2) (w : OkF (execB C b sl2) h P) : OkF (andE sl (opt (assign tg d sl)) fun sl2 => execB C b sl2) h P := by
  rw [e]; exact w
end
end Wb

/-! the small text -/
namespace K21
open PySem PySem.Spec L2 Wb
def f0 : Fn := ⟨1, 1, (
    .cons (.ret (.bin .sub (.bin .mod (.bin .add (.var 0) (.glb "HALF" (.int 128))) (.glb "RING" (.int 256))) (.glb "HALF" (.int 128)))) <| .nil)⟩ -- folded
def f1 : Fn := ⟨2, 2, (
    .cons (.ret (.blt .abs (.cons (.call 0 (.cons (.bin .sub (.var 0) (.var 1)) .nil)) .nil))) <| .nil)⟩ -- apart
def f2 : Fn := libBag -- _law_bag
def f3 : Fn := libPick -- _law_pick
def f4 : Fn := libOf 3 -- _law_of
def f5 : Fn := libSame 5 -- _law_same
def f6 : Fn := ⟨1, 1, (
    .cons (.whl (.bin .gt (.var 0) (.cst (.int 127))) (
      .cons (.set 0 (.bin .sub (.var 0) (.bin .mul (.cst (.int 256)) (.bin .fdiv (.bin .add (.var 0) (.cst (.int 128))) (.cst (.int 256)))))) <| .nil)) <|
    .cons (.whl (.bin .lt (.var 0) (.una .neg (.cst (.int 128)))) (
      .cons (.set 0 (.bin .add (.var 0) (.bin .mul (.cst (.int 256)) (.bin .sub (.bin .fdiv (.bin .sub (.cst (.int 383)) (.var 0)) (.cst (.int 256))) (.cst (.int 1)))))) <| .nil)) <|
    .cons (.ret (.var 0)) <| .nil)⟩ -- _law_folded
def f7 : Fn := ⟨2, 3, (
    .cons (.set 2 (.bin .mod (.blt .abs (.cons (.bin .sub (.var 0) (.var 1)) .nil)) (.cst (.int 256)))) <|
    .cons (.ret (.blt .min2 (.cons (.var 2) (.cons (.bin .sub (.cst (.int 256)) (.var 2)) .nil)))) <| .nil)⟩ -- _law_apart
def f8 : Fn := ⟨1, 2, (
    .cons (.set 1 (.call 3 (.cons (.var 0) (.cons (.bin .pow (.cst (.int 10)) (.cst (.int 12))) .nil)))) <|
    .cons (.ret (.ite (.bin .eq (.call 3 (.cons (.var 0) (.cons (.cst (.int 2)) .nil))) (.cst (.int 0))) (.var 1) (.bin .sub (.una .neg (.cst (.int 1))) (.var 1)))) <| .nil)⟩ -- _law_far
def f9 : Fn := ⟨1, 7, (
    .cons (.heap 1 (.call 2 (.cons (.var 0) .nil))) <|
    .cons (.for_ [2] (.rng1 (.cst (.int 8))) (
      .cons (.set 3 (.bin .sub (.call 3 (.cons (.var 1) (.cons (.cst (.int 520)) .nil))) (.cst (.int 260)))) <|
      .cons (.set 4 (.call 4 (.cons (.var 1) (.cons (.lst (.cons (.var 3) (.cons (.call 8 (.cons (.var 1) .nil)) (.cons (.cst (.int 127)) (.cons (.cst (.int 128)) (.cons (.una .neg (.cst (.int 128))) (.cons (.una .neg (.cst (.int 129))) .nil))))))) .nil)))) <|
      .cons (.set 5 (.call 4 (.cons (.var 1) (.cons (.lst (.cons (.bin .add (.var 3) (.call 3 (.cons (.var 1) (.cons (.cst (.int 5)) .nil)))) (.cons (.call 8 (.cons (.var 1) .nil)) (.cons (.bin .add (.var 4) (.cst (.int 128))) (.cons (.cst (.int 0)) .nil))))) .nil)))) <|
      .cons (.iff (.una .not_ (.call 5 (.cons (.lst (.cons (.call 0 (.cons (.var 4) .nil)) (.cons (.call 0 (.cons (.var 5) .nil)) .nil))) (.cons (.lst (.cons (.call 6 (.cons (.var 4) .nil)) (.cons (.call 6 (.cons (.var 5) .nil)) .nil))) .nil)))) (
        .cons (.ret (.cst (.bl false))) <| .nil) .nil) <|
      .cons (.set 6 (.call 7 (.cons (.var 4) (.cons (.var 5) .nil)))) <|
      .cons (.iff (.una .not_ (.call 5 (.cons (.lst (.cons (.call 1 (.cons (.var 4) (.cons (.var 5) .nil))) (.cons (.call 1 (.cons (.var 5) (.cons (.var 4) .nil))) (.cons (.call 1 (.cons (.call 0 (.cons (.var 4) .nil)) (.cons (.var 5) .nil))) .nil)))) (.cons (.lst (.cons (.var 6) (.cons (.var 6) (.cons (.var 6) .nil)))) .nil)))) (
        .cons (.ret (.cst (.bl false))) <| .nil) .nil) <|
      .cons (.iff (.una .not_ (.call 5 (.cons (.call 0 (.cons (.bin .add (.var 4) (.bin .mul (.cst (.int 256)) (.bin .sub (.call 3 (.cons (.var 1) (.cons (.cst (.int 99)) .nil))) (.cst (.int 49))))) .nil)) (.cons (.call 6 (.cons (.var 4) .nil)) .nil)))) (
        .cons (.ret (.cst (.bl false))) <| .nil) .nil) <| .nil)) <|
    .cons (.ret (.call 5 (.cons (.lst (.cons (.glb "RING" (.int 256)) (.cons (.call 1 (.cons (.cst (.int 5)) (.cons (.cst (.int 5)) .nil))) (.cons (.call 1 (.cons (.una .neg (.cst (.int 128))) (.cons (.cst (.int 127)) .nil))) (.cons (.call 0 (.cons (.cst (.int 128)) .nil)) .nil))))) (.cons (.lst (.cons (.cst (.int 256)) (.cons (.cst (.int 0)) (.cons (.cst (.int 1)) (.cons (.una .neg (.cst (.int 128))) .nil))))) .nil)))) <| .nil)⟩ -- law
def pr : Pr := ⟨[("folded", f0), ("apart", f1), ("_law_bag", f2), ("_law_pick", f3), ("_law_of", f4), ("_law_same", f5), ("_law_folded", f6), ("_law_apart", f7), ("_law_far", f8), ("law", f9)], [("HALF", (.int 128)), ("RING", (.int 256))]⟩
end K21

set_option maxHeartbeats 400000
namespace K21
open PySem Wb
abbrev tb : Nat → Option Fn := pr.tab
theorem h0 : tb 0 = some f0 := rfl
theorem h1 : tb 1 = some f1 := rfl
theorem h2 : tb 2 = some libBag := rfl
theorem h3 : tb 3 = some libPick := rfl
theorem h4 : tb 4 = some (libOf 3) := rfl
theorem h5 : tb 5 = some (libSame 5) := rfl
theorem h6 : tb 6 = some f6 := rfl
theorem h7 : tb 7 = some f7 := rfl
theorem h8 : tb 8 = some f8 := rfl
theorem h9 : tb 9 = some f9 := rfl
def fold (n : Int) : Int := (n + 128) % 256 - 128
def apt (a b : Int) : Int := if fold (a - b) < 0 then -(fold (a - b)) else fold (a - b)
section
variable {k : Nat} {h : AH} {Q : RV → AH → Prop}
theorem folded_ {n : Int} (q : Q (.val (.int (fold n))) h) : Ok (callK tb (k + 1) 0 [.int n]) h Q := by
  refine ok_callK h0 rfl ?_
  unfold f0
  simp
  exact q
theorem apart_ {a b : Int} (q : Q (.val (.int (apt a b))) h) : Ok (callK tb (k + 2) 1 [.int a, .int b]) h Q := by
  refine ok_callK h1 rfl ?_
  unfold f1
  simp
  refine folded_ ?_
  simp
  exact q
theorem lfolded_ {n : Int} (q : Q (.val (.int (fold n))) h) : Ok (callK tb (k + 1) 6 [.int n]) h Q := by
  refine ok_callK h6 rfl ?_
  unfold f6
  have wm : 1 < wMost := by unfold wMost; decide
  rw [f_cons]
  refine f_while (I := fun sl h' => h' = h ∧ ∃ x : Int, sl = [some (.val (.int x))] ∧ fold x = fold n) (m := fun sl _ => match sl with
    | [some (.val (.int x))] => if 127 < x then 1 else 0
    | _ => 0) ⟨rfl, n, rfl, rfl⟩ (by dsimp only [List.map, List.append, List.replicate]; simp; split <;> omega) fun sl h' z => ?_
  obtain ⟨rfl, x, rfl, hx⟩ := z
  simp
  by_cases c : 127 < x
  · simp [c, lt_big]
    unfold fold at hx ⊢
    omega
  · simp [c]
    refine f_while (I := fun sl h2 => h2 = h' ∧ ∃ x : Int, sl = [some (.val (.int x))] ∧ fold x = fold n ∧ x ≤ 127) (m := fun sl _ => match sl with
      | [some (.val (.int x))] => if x < -128 then 1 else 0
      | _ => 0) ⟨rfl, x, rfl, hx, by omega⟩ (by dsimp only; split <;> omega) fun sl h2 z => ?_
    obtain ⟨rfl, y, rfl, hy, ly⟩ := z
    simp
    by_cases c2 : y < -128
    · simp [c2, lt_big]
      unfold fold at hy ⊢
      omega
    · simp [c2]
      have e : y = fold n := by unfold fold at hy ⊢; omega
      rw [e]; exact q
theorem lapart_ {a b : Int} (q : Q (.val (.int (apt a b))) h) : Ok (callK tb (k + 1) 7 [.int a, .int b]) h Q := by
  refine ok_callK h7 rfl ?_
  unfold f7
  simp
  have e : (if 256 - (if a - b < 0 then -(a - b) else a - b) % 256 < (if a - b < 0 then -(a - b) else a - b) % 256 then 256 - (if a - b < 0 then -(a - b) else a - b) % 256 else (if a - b < 0 then -(a - b) else a - b) % 256) = apt a b := by
    unfold apt fold
    generalize a - b = d
    by_cases c1 : d < 0 <;> simp only [c1, if_true, if_false] <;> split <;> split <;> omega
  rw [e]
  exact q
theorem far_ {t : Nat} (hb : BagH h t) (q : ∀ d h', Picked t h h' → Q (.val (.int d)) h') : Ok (callK tb (k + 2) 8 [.ref t]) h Q := by
  refine ok_callK h8 rfl ?_
  unfold f8
  simp
  refine pick_spec h3 hb (by decide) (by decide) fun d h' d0 d1 p => ?_
  simp
  refine pick_spec h3 p.bag (by decide) (by decide) fun d2 h2 d20 d21 p2 => ?_
  simp
  have pp := p.trans p2
  split <;> exact q _ _ pp
theorem apt_symm (a b : Int) : apt b a = apt a b := by
  unfold apt fold
  split <;> split <;> omega
theorem apt_fold (a b : Int) : apt (fold a) b = apt a b := by
  unfold apt fold
  split <;> split <;> omega
theorem fold_add (a d : Int) : fold (a + 256 * d) = fold a := by
  unfold fold; omega
theorem ints_same {xs : List D} {k : Nat} (hx : ∀ d ∈ xs, ∃ i, d = .int i) (hl : xs.length ≤ 1000000) (q : Q (.val (.bl true)) h) : Ok (callK tb (k + 2) 5 [.lst xs, .lst xs]) h Q := by
  refine same_seq h5 (.inl rfl) hl (fun i e he R z => ?_) q
  obtain ⟨x, rfl⟩ := hx e (List.mem_of_getElem? he)
  exact same_flat h5 rfl (fun s z => by cases z) z
end
theorem law_k {k : Nat} (ns : List Int) (hl : ns.length ≤ 63) : Ok (callK tb (k + 4) 9 [.scr ns]) [] fun v _ => v = .val (.bl true) := by
  refine ok_callK (k := k + 3) h9 rfl ?_
  unfold f9
  refine f_step fun K kn kr kb kc => ?_
  simp
  refine bag_spec (k := k + 2) h2 hl fun b ob => ?_
  simp
  refine kn _ _ ?_
  clear K kn kr kb kc
  refine f_step fun K kn kr kb kc => ?_
  have c8 : chk62 8 := by unfold chk62; omega
  rw [f_for]
  simp only [ok_rng1, ok_cst, ok_asInt]
  refine ⟨c8, ?_⟩
  refine f_loop (I := fun _ sl h => BagH h 0 ∧ ∃ x1 x2 x3 x4 x5, sl = [some (.val (.scr ns)), some (.val (.ref 0)), x1, x2, x3, x4, x5]) _ 0 _ _ ⟨⟨b, rfl, ob⟩, _, _, _, _, _, rfl⟩ (fun i d sl h hd z => ?_) fun sl h z => kn _ _ ?_
  · obtain ⟨hb, x1, x2, x3, x4, x5, rfl⟩ := z
    refine f_turn (sl2 := [some (.val (.scr ns)), some (.val (.ref 0)), some (.val d), x2, x3, x4, x5]) rfl ?_
    refine f_step fun K kn kr kb kc => ?_
    simp
    refine pick_spec (k := k + 2) h3 hb (by decide) (by decide) fun near ha _ _ pa => ?_
    simp
    refine kn _ _ ?_
    clear K kn kr kb kc
    refine f_step fun K kn kr kb kc => ?_
    simp
    refine far_ (k := k + 1) pa.bag fun fa hb1 pb => ?_
    simp
    refine ⟨le_size (by decide), ?_⟩
    refine of_spec (k := k + 1) h4 h3 pb.bag (by simp) (by simp) fun i1 d1 hc e1 pc => ?_
    obtain ⟨one, rfl⟩ : ∃ one, d1 = .int one := by
      have m := List.mem_of_getElem? e1
      simp at m
      rcases m with rfl | rfl | rfl | rfl | rfl | rfl <;> exact ⟨_, rfl⟩
    simp
    refine kn _ _ ?_
    clear K kn kr kb kc
    refine f_step fun K kn kr kb kc => ?_
    simp
    refine pick_spec (k := k + 2) h3 pc.bag (by decide) (by decide) fun near2 hd2 _ _ pd => ?_
    simp
    refine far_ (k := k + 1) pd.bag fun fb he pe => ?_
    simp
    refine ⟨le_size (by decide), ?_⟩
    refine of_spec (k := k + 1) h4 h3 pe.bag (by simp) (by simp) fun i2 d2 hf e2 pf => ?_
    obtain ⟨other, rfl⟩ : ∃ other, d2 = .int other := by
      have m := List.mem_of_getElem? e2
      simp at m
      rcases m with rfl | rfl | rfl | rfl <;> exact ⟨_, rfl⟩
    simp
    refine kn _ _ ?_
    clear K kn kr kb kc
    refine f_step fun K kn kr kb kc => ?_
    simp
    refine folded_ (k := k + 2) ?_
    simp
    refine folded_ (k := k + 2) ?_
    simp
    refine ⟨le_size (by decide), ?_⟩
    refine lfolded_ (k := k + 2) ?_
    simp
    refine lfolded_ (k := k + 2) ?_
    simp
    refine ⟨le_size (by decide), ?_⟩
    generalize eg : [D.int (fold one), D.int (fold other)] = xs
    refine ints_same (k := k + 1) (by subst eg; simp) (by subst eg; simp) ?_
    clear eg
    simp
    refine kn _ _ ?_
    clear K kn kr kb kc
    refine f_step fun K kn kr kb kc => ?_
    simp
    refine lapart_ (k := k + 2) ?_
    simp
    refine kn _ _ ?_
    clear K kn kr kb kc
    refine f_step fun K kn kr kb kc => ?_
    simp
    refine apart_ (k := k + 1) ?_
    simp
    refine apart_ (k := k + 1) ?_
    simp
    refine folded_ (k := k + 2) ?_
    simp
    refine apart_ (k := k + 1) ?_
    simp
    refine ⟨le_size (by decide), ?_⟩
    rw [apt_symm one other, apt_fold]
    generalize eg : [D.int (apt one other), D.int (apt one other), D.int (apt one other)] = xs
    refine ints_same (k := k + 1) (by subst eg; simp) (by subst eg; simp) ?_
    clear eg
    simp
    refine kn _ _ ?_
    clear K kn kr kb kc
    refine f_step fun K kn kr kb kc => ?_
    simp
    refine pick_spec (k := k + 2) h3 pf.bag (by decide) (by decide) fun sh hg _ _ pg => ?_
    simp
    refine folded_ (k := k + 2) ?_
    simp
    refine lfolded_ (k := k + 2) ?_
    simp
    rw [fold_add]
    refine same_flat (k := k + 2) h5 rfl (fun s z => by cases z) ?_
    simp
    refine kn _ _ ?_
    exact f_end ⟨pg.bag, _, _, _, _, _, rfl⟩
  · obtain ⟨hb, x1, x2, x3, x4, x5, rfl⟩ := z
    clear K kn kr kb kc
    refine f_step fun K kn kr kb kc => ?_
    simp
    refine apart_ (k := k + 1) ?_
    simp
    refine apart_ (k := k + 1) ?_
    simp
    refine folded_ (k := k + 2) ?_
    simp
    refine ⟨le_size (by decide), ?_⟩
    rw [show apt 5 5 = 0 from by decide, show apt (-128) 127 = 1 from by decide, show fold 128 = -128 from by decide]
    generalize eg : [D.int 256, D.int 0, D.int 1, D.int (-128)] = xs
    refine ints_same (k := k + 1) (by subst eg; simp) (by subst eg; simp) ?_
    clear eg
    simp
    exact kr _ _ _ rfl
theorem law_ok (ns : List Int) (hl : ns.length ≤ 63) : ∃ h', callK tb 60 9 [.scr ns] [] = .ok (.val (.bl true)) h' := by
  obtain ⟨a, h', e, rfl⟩ := (law_k (k := 56) ns hl).ex
  exact ⟨h', e⟩
end K21

set_option maxHeartbeats 0
namespace K21
open PySem PySem.Spec L2 Wb
abbrev top (i : Nat) : Stmt := PySem.Challenge.pw_warbleline_k21_numbers_on_the_ring.main.body.getD i (.Pass ⟨0, 0, 0, 0⟩)
def t0 : FT := ⟨⟨("folded", none), "folded", "folded", defArgs (top 3), defBody (top 3), defScope (top 3), [], []⟩, ["number"], ["number"]⟩
theorem o0 : t0.Ok pr ("folded", f0) := ⟨rfl, rfl, rfl, ⟨rfl, rfl, rfl, by decide +kernel, rfl, by decide +kernel, by decide +kernel⟩, rfl, rfl, fun _ _ _ _ _ _ us hl => match us, hl with | [_], _ => rfl, by decide +kernel⟩
def t1 : FT := ⟨⟨("apart", none), "apart", "apart", defArgs (top 4), defBody (top 4), defScope (top 4), [], []⟩, ["one", "other"], ["one", "other"]⟩
theorem o1 : t1.Ok pr ("apart", f1) := ⟨rfl, rfl, rfl, ⟨rfl, rfl, rfl, by decide +kernel, rfl, by decide +kernel, by decide +kernel⟩, rfl, rfl, fun _ _ _ _ _ _ us hl => match us, hl with | [_, _], _ => rfl, by decide +kernel⟩
def t2 : FT := ⟨⟨("_law_bag", none), "_law_bag", "_law_bag", defArgs (top 6), defBody (top 6), defScope (top 6), [], []⟩, ["_law_script"], ["_law_script"]⟩
theorem o2 : t2.Ok pr ("_law_bag", f2) := ⟨rfl, rfl, rfl, ⟨rfl, rfl, rfl, by decide +kernel, rfl, by decide +kernel, by decide +kernel⟩, rfl, rfl, fun _ _ _ _ _ _ us hl => match us, hl with | [_], _ => rfl, by decide +kernel⟩
def t3 : FT := ⟨⟨("_law_pick", none), "_law_pick", "_law_pick", defArgs (top 7), defBody (top 7), defScope (top 7), [], []⟩, ["_law_bag_here", "_law_top", "_law_cell", "_law_digit"], ["_law_bag_here", "_law_top"]⟩
theorem o3 : t3.Ok pr ("_law_pick", f3) := ⟨rfl, rfl, rfl, ⟨rfl, rfl, rfl, by decide +kernel, rfl, by decide +kernel, by decide +kernel⟩, rfl, rfl, fun _ _ _ _ _ _ us hl => match us, hl with | [_, _], _ => rfl, by decide +kernel⟩
def t4 : FT := ⟨⟨("_law_of", none), "_law_of", "_law_of", defArgs (top 8), defBody (top 8), defScope (top 8), [], []⟩, ["_law_bag_here", "_law_some"], ["_law_bag_here", "_law_some"]⟩
theorem o4 : t4.Ok pr ("_law_of", f4) := ⟨rfl, rfl, rfl, ⟨rfl, rfl, rfl, by decide +kernel, rfl, by decide +kernel, by decide +kernel⟩, rfl, rfl, fun _ _ _ _ _ _ us hl => match us, hl with | [_, _], _ => rfl, by decide +kernel⟩
def t5 : FT := ⟨⟨("_law_same", none), "_law_same", "_law_same", defArgs (top 9), defBody (top 9), defScope (top 9), [], []⟩, ["_law_found", "_law_due", "_law_spot"], ["_law_found", "_law_due"]⟩
theorem o5 : t5.Ok pr ("_law_same", f5) := ⟨rfl, rfl, rfl, ⟨rfl, rfl, rfl, by decide +kernel, rfl, by decide +kernel, by decide +kernel⟩, rfl, rfl, fun _ _ _ _ _ _ us hl => match us, hl with | [_, _], _ => rfl, by decide +kernel⟩
def t6 : FT := ⟨⟨("_law_folded", none), "_law_folded", "_law_folded", defArgs (top 10), defBody (top 10), defScope (top 10), [], []⟩, ["_law_figure"], ["_law_figure"]⟩
theorem o6 : t6.Ok pr ("_law_folded", f6) := ⟨rfl, rfl, rfl, ⟨rfl, rfl, rfl, by decide +kernel, rfl, by decide +kernel, by decide +kernel⟩, rfl, rfl, fun _ _ _ _ _ _ us hl => match us, hl with | [_], _ => rfl, by decide +kernel⟩
def t7 : FT := ⟨⟨("_law_apart", none), "_law_apart", "_law_apart", defArgs (top 11), defBody (top 11), defScope (top 11), [], []⟩, ["_law_one", "_law_other", "_law_gap"], ["_law_one", "_law_other"]⟩
theorem o7 : t7.Ok pr ("_law_apart", f7) := ⟨rfl, rfl, rfl, ⟨rfl, rfl, rfl, by decide +kernel, rfl, by decide +kernel, by decide +kernel⟩, rfl, rfl, fun _ _ _ _ _ _ us hl => match us, hl with | [_, _], _ => rfl, by decide +kernel⟩
def t8 : FT := ⟨⟨("_law_far", none), "_law_far", "_law_far", defArgs (top 12), defBody (top 12), defScope (top 12), [], []⟩, ["_law_bag_here", "_law_figure"], ["_law_bag_here"]⟩
theorem o8 : t8.Ok pr ("_law_far", f8) := ⟨rfl, rfl, rfl, ⟨rfl, rfl, rfl, by decide +kernel, rfl, by decide +kernel, by decide +kernel⟩, rfl, rfl, fun _ _ _ _ _ _ us hl => match us, hl with | [_], _ => rfl, by decide +kernel⟩
def t9 : FT := ⟨⟨("law", none), "law", "law", defArgs (top 13), defBody (top 13), defScope (top 13), [], []⟩, ["_law_script", "_law_bag_here", "_law_turn", "_law_near", "_law_one", "_law_other", "_law_due"], ["_law_script"]⟩
theorem o9 : t9.Ok pr ("law", f9) := ⟨rfl, rfl, rfl, ⟨rfl, rfl, rfl, by decide +kernel, rfl, by decide +kernel, by decide +kernel⟩, rfl, rfl, fun _ _ _ _ _ _ us hl => match us, hl with | [_], _ => rfl, by decide +kernel⟩
def fts : List FT := [t0, t1, t2, t3, t4, t5, t6, t7, t8, t9]
theorem allOk : AllOk pr pr.fns fts := ⟨o0, o1, o2, o3, o4, o5, o6, o7, o8, o9, trivial⟩
abbrev R : PySem.W.OpenRow := PySem.W.OpenLaw.row PySem.Challenge.rw_warbleline_k21_numbers_on_the_ring
abbrev hk : PySem.W.Hook := He.hookD 4 (faOf pr) (fts.map (·.d))
def ob (s : PySem.W.SharedT) : He.AlD := He.obsDG 4 (faOf pr) (fts.map (·.d)) (HandSHeadRun.getT s)
theorem ob_eq (s : PySem.W.SharedT) : ob s = hk.obs s.abs := He.obsDG_eq (HandSHeadRun.getT_eq s)
def loose : List Str := ["RING", "HALF", "folded", "apart", "_law_bag", "_law_pick", "_law_of", "_law_same", "_law_folded", "_law_apart", "_law_far"]
theorem run (w : World) : HandSHeadRun.RunEq R (PySem.W.view R.prog [13]) hk ob 1500 loose w := by
  intro os
  kernel_rfl
end K21
open PySem PySem.W PySem.Calls PyProof.Rows
theorem PySem.Challenge.cw_warbleline_k21_numbers_on_the_ring_holds : PySem.Challenge.rw_warbleline_k21_numbers_on_the_ring.Holds := by
  w_on; o_law
  refine HandSHeadRun.head_any (r := OpenLaw.row PySem.Challenge.rw_warbleline_k21_numbers_on_the_ring) (q := view (OpenLaw.row PySem.Challenge.rw_warbleline_k21_numbers_on_the_ring).prog [13]) (H := K21.hk) (ob := K21.ob) (M := 1500) (loose := K21.loose) (d := HandSHeadRun.topDef (OpenLaw.row PySem.Challenge.rw_warbleline_k21_numbers_on_the_ring).prog 13) (kwd := []) K21.ob_eq
    (by kernel_rfl) (fun s => by kernel_rfl) K21.run (by kernel_rfl) (by kernel_rfl) (by kernel_rfl) (by rfl) (by first | assumption | decide +kernel) (by decide +kernel) ⟨rfl, rfl, rfl, rfl, rfl, by decide +kernel⟩ ?hw ?hc
  case hw => w_witness2
  case hc =>
    exact Wb.law_walk (l := PySem.Challenge.rw_warbleline_k21_numbers_on_the_ring) (n := 63) (k := 60) (g := 9) (p := ("law", K21.f9)) (t := K21.t9) (x := "_law_script") rfl (by decide) (by kernel_rfl) ⟨rfl, by decide, by decide⟩ K21.allOk rfl rfl rfl rfl (by kernel_rfl) K21.law_ok

