import PyProof.Rows.All
import Wide.All
import OpenK.AllK
import Wide.FinOn
import HandS.ForMost
import HandS.Walk
import HandS.ForExc
import HandS.Lambda
import HandS.CallSlots
import HandS.Style
import KE.DataEq
import HandS.Text
import HandS.Defaults
import HandS.IsInst
import PyProof.RulesMatch
import PyProof.EnumMake
import PyProof.Draws
import HandS.Flow
import HandS.Codes
import HandS.More
import HandS.Comp
import PyProof.CollectStr
import KE.SortCalls
import HandS.Words
import HandS.Exc
import HandS.HeadHook4
import HandS.AnyAll
import HandS.StrMore
import HandS.Nested
import HandS.Iter
import HandS.Conv
import Wide.Once
import KE.KStateDown
import HandS.Head0
import HandS.Head1
import HandS.Head2
import HandS.HeadEnd
import HandS.HeadWalk
import PySem.Challenge.RW_holedlines_k44_least_texts_of_kinds
set_option Elab.async false
section
set_option linter.all false
/-! F layer, part A: python values as plain data, bodies of defs as compositions of plain functions. Core Lean alone. -/
namespace F
inductive Ky where
  | i (n : Int) | s (x : List Nat)
  deriving DecidableEq
/-- a value without addresses: what can no longer change -/
inductive D where
  | non | bl (b : Bool) | int (i : Int) | str (x : List Nat)
  | tup (l : List D) | lst (l : List D) | dct (l : List (Ky × D)) | obj (c : Nat) (l : List D)
  /-- a thing of the kind k that d describes; what it is in memory is told elsewhere -/
  | ex (k : Nat) (d : D)
/-- what a name holds: shared data, or a thing of its own (a list, a dict, an instance) that it alone holds -/
inductive O where
  | sh (d : D) | fl (l : List D) | fd (l : List (Ky × D)) | fo (c : Nat) (l : List O)
abbrev Env := List (Option O)
/-- an expression's answer: data, a name's thing, a new thing -/
inductive R where
  | d (x : D) | sl (i : Nat) | ow (o : O)
inductive Rs (α : Type) where
  | ok (a : α) (e : Env) | ex (c : Nat) (p : D) (e : Env) | bad
abbrev M (α : Type) := Env → Rs α
/-- a statement's answer -/
inductive SR where
  | nx (e : Env) | rt (o : O) (e : Env) | bk (e : Env) | ct (e : Env) | ex (c : Nat) (p : D) (e : Env) | bad
abbrev MS := Env → SR
/-- a def's answer: the result, the arguments' things behind the call -/
inductive FR where
  | rt (o : O) (os : List O) | ex (c : Nat) (p : D) (os : List O) | bad
abbrev Fn := List O → FR
def lim : Nat := 16777216
mutual
def O.frz : O → D
  | .sh d => d
  | .fl l => .lst l
  | .fd l => .dct l
  | .fo c l => .obj c (frzs l)
def frzs : List O → List D
  | [] => []
  | o :: os => o.frz :: frzs os
end
def slot (e : Env) (i : Nat) : Option O := match e[i]? with
  | some (some o) => some o
  | _ => none
/-- a thing read off (an instance's fields are read one by one) -/
def O.pk : O → Option D
  | .sh d => some d
  | .fl l => some (.lst l)
  | .fd l => some (.dct l)
  | .fo _ _ => none
/-- an answer read off, held no longer than an operation -/
def peek : R → Env → Option D
  | .d x, _ => some x
  | .sl i, e => (slot e i).bind O.pk
  | .ow o, _ => o.pk
/-- an answer that is kept from now on: it can't be changed any more -/
def leak : R → M D
  | .d x, e => .ok x e
  | .sl i, e => match slot e i with
    | some o => .ok o.frz (e.set i (some (.sh o.frz)))
    | none => .bad
  | .ow o, e => .ok o.frz e
def nrm : R → R
  | .ow o => .d o.frz
  | r => r
/-! ### expressions -/
/-- places -/
def ixI (n : Nat) (i : Int) : Option Nat := if 0 ≤ i then (if i < n then some i.toNat else none) else if -(n : Int) ≤ i then some (i + n).toNat else none
def getI {α : Type} (l : List α) (i : Int) : Option α := (ixI l.length i).bind fun j => l[j]?
def mBad {α : Type} : M α := fun _ => .bad
def mVar (i : Nat) : M R := fun e => match slot e i with
  | some _ => .ok (.sl i) e
  | none => .bad
def mC (d : D) : M R := fun e => .ok (.d d) e
def andThen {α β : Type} (r : Rs α) (f : α → Env → Rs β) : Rs β := match r with
  | .ok a e => f a e
  | .ex c p e => .ex c p e
  | .bad => .bad
def ofO {α : Type} (x : Option α) (f : α → Rs β) : Rs β := match x with
  | some a => f a
  | none => .bad
/-- one operand, two operands: read off, a value out -/
def mOp1 (f : D → Option D) (a : M R) : M R := fun e => andThen (a e) fun r e1 => ofO (peek r e1) fun x => ofO (f x) fun z => .ok (.d z) e1
def mOp2 (f : D → D → Option D) (a b : M R) : M R := fun e => andThen (a e) fun r e1 => andThen (b e1) fun q e2 => ofO (peek (nrm r) e2) fun x => ofO (peek q e2) fun y => ofO (f x y) fun z => .ok (.d z) e2
/-- the same, a new list out -/
def mOl1 (f : D → Option (List D)) (a : M R) : M R := fun e => andThen (a e) fun r e1 => ofO (peek r e1) fun x => ofO (f x) fun z => .ok (.ow (.fl z)) e1
def mOl2 (f : D → D → Option (List D)) (a b : M R) : M R := fun e => andThen (a e) fun r e1 => andThen (b e1) fun q e2 => ofO (peek (nrm r) e2) fun x => ofO (peek q e2) fun y => ofO (f x y) fun z => .ok (.ow (.fl z)) e2
/-- several, each kept -/
def mLks : List (M R) → M (List D)
  | [], e => .ok [] e
  | m :: ms, e => andThen (m e) fun r e1 => andThen (leak r e1) fun d e2 => andThen (mLks ms e2) fun ds e3 => .ok (d :: ds) e3
def mTup (ms : List (M R)) : M R := fun e => andThen (mLks ms e) fun ds e1 => if ds.length ≤ lim then .ok (.d (.tup ds)) e1 else .bad
def mLst (ms : List (M R)) : M R := fun e => andThen (mLks ms e) fun ds e1 => if ds.length ≤ lim then .ok (.ow (.fl ds)) e1 else .bad
/-- a text's method with one argument, without -/
def mSm1 (f : List Nat → D → Option D) (o a : M R) : M R := fun e => andThen (o e) fun r e1 => match peek r e1 with
  | some (.str x) => andThen (a e1) fun q e2 => ofO (peek q e2) fun y => ofO (f x y) fun z => .ok (.d z) e2
  | _ => .bad
def mSm0 (f : List Nat → Option D) (o : M R) : M R := fun e => andThen (o e) fun r e1 => match peek r e1 with
  | some (.str x) => ofO (f x) fun z => .ok (.d z) e1
  | _ => .bad
/-- a part of a slice -/
def mPt : Option (M R) → M (Option Int)
  | none, e => .ok none e
  | some m, e => andThen (m e) fun r e1 => match peek r e1 with
    | some (.int i) => .ok (some i) e1
    | _ => .bad
/-- xs[lo:hi]: a value; a new list -/
def mSl (f : D → Option Int → Option Int → Option D) (a : M R) (lo hi : Option (M R)) : M R := fun e => andThen (a e) fun r e1 => andThen (mPt lo e1) fun l e2 => andThen (mPt hi e2) fun h e3 => ofO (peek (nrm r) e3) fun x => ofO (f x l h) fun z => .ok (.d z) e3
def mSlL (f : D → Option Int → Option Int → Option (List D)) (a : M R) (lo hi : Option (M R)) : M R := fun e => andThen (a e) fun r e1 => andThen (mPt lo e1) fun l e2 => andThen (mPt hi e2) fun h e3 => ofO (peek (nrm r) e3) fun x => ofO (f x l h) fun z => .ok (.ow (.fl z)) e3
/-- {k: v, ..}, the keys written and different -/
def mDvs : List (Ky × M R) → M (List (Ky × D))
  | [], e => .ok [] e
  | (k, m) :: ms, e => andThen (m e) fun r e1 => andThen (leak r e1) fun d e2 => andThen (mDvs ms e2) fun ds e3 => .ok ((k, d) :: ds) e3
def mDct (kms : List (Ky × M R)) : M R := fun e => andThen (mDvs kms e) fun l e1 => .ok (.ow (.fd l)) e1
/-- several, read off at the end (none of them a name's thing that a later one changes) -/
def mRs : List (M R) → M (List R)
  | [], e => .ok [] e
  | m :: ms, e => andThen (m e) fun r e1 => andThen (mRs ms e1) fun rs e2 => .ok (nrm r :: rs) e2
def peeks : List R → Env → Option (List D)
  | [], _ => some []
  | r :: rs, e => match peek r e, peeks rs e with
    | some x, some xs => some (x :: xs)
    | _, _ => none
/-- a built-in by its values: a value out; a new list out -/
def mBi (f : List D → Option D) (ms : List (M R)) : M R := fun e => andThen (mRs ms e) fun rs e1 => ofO (peeks rs e1) fun xs => ofO (f xs) fun z => .ok (.d z) e1
def mBl (f : List D → Option (List D)) (ms : List (M R)) : M R := fun e => andThen (mRs ms e) fun rs e1 => ofO (peeks rs e1) fun xs => ofO (f xs) fun z => .ok (.ow (.fl z)) e1
/-- xs.append(e) and its like, xs a name's own list: the answer, the list behind it; the argument is kept -/
def mMut1 (i : Nat) (f : List D → D → Option (D × List D)) (a : M R) : M R := fun e => match slot e i with
  | some (.fl _) => andThen (a e) fun r e1 => andThen (leak r e1) fun d e2 => (match slot e2 i with
    | some (.fl l) => ofO (f l d) fun p => .ok (.d p.1) (e2.set i (some (.fl p.2)))
    | _ => .bad)
  | _ => .bad
def mMut0 (i : Nat) (f : List D → Option (D × List D)) : M R := fun e => match slot e i with
  | some (.fl l) => ofO (f l) fun p => .ok (.d p.1) (e.set i (some (.fl p.2)))
  | _ => .bad
def extF (l : List D) : D → Option (D × List D)
  | .lst m => if l.length + m.length ≤ lim then some (.non, l ++ m) else none
  | _ => none
/-! ### tests -/
def truD : D → Option Bool
  | .non => some false
  | .bl b => some b
  | .int i => some (i != 0)
  | .str x => some (!x.isEmpty)
  | .lst l => some (!l.isEmpty)
  | .tup l => some (!l.isEmpty)
  | _ => none
def mTru (a : M R) : M Bool := fun e => andThen (a e) fun r e1 => ofO (peek r e1) fun x => ofO (truD x) fun b => .ok b e1
/-- a test whose value is a bool -/
def mTB (a : M R) : M Bool := fun e => andThen (a e) fun r e1 => match peek r e1 with
  | some (.bl b) => .ok b e1
  | _ => .bad
def mAnd (a b : M Bool) : M Bool := fun e => andThen (a e) fun x e1 => if x = true then b e1 else .ok false e1
def mOr (a b : M Bool) : M Bool := fun e => andThen (a e) fun x e1 => if x = true then .ok true e1 else b e1
def mNot (a : M Bool) : M Bool := fun e => andThen (a e) fun x e1 => .ok (!x) e1
def mIf {α : Type} (c : M Bool) (a b : M α) : M α := fun e => andThen (c e) fun x e1 => if x = true then a e1 else b e1
/-- and, or, not as values: all but the last are bools -/
def mAndV (a b : M R) : M R := fun e => andThen (a e) fun r e1 => match peek r e1 with
  | some (.bl x) => if x = true then b e1 else .ok (.d (.bl false)) e1
  | _ => .bad
def mOrV (a b : M R) : M R := fun e => andThen (a e) fun r e1 => match peek r e1 with
  | some (.bl x) => if x = true then .ok (.d (.bl true)) e1 else b e1
  | _ => .bad
def mNotV (a : M R) : M R := fun e => andThen (a e) fun r e1 => match peek r e1 with
  | some (.bl x) => .ok (.d (.bl (!x))) e1
  | _ => .bad
/-! ### calls of defs -/
/-- an argument: kept (lk), or lent: the name's own thing, changed and given back (bo) -/
inductive Md where
  | lk | bo
  deriving DecidableEq
def asArg : Md → R → Env → Option (O × Env)
  | .bo, .sl i, e => (match slot e i with
    | some o => some (o, e.set i none)
    | none => none)
  | _, r, e => (match leak r e with
    | .ok d e1 => some (.sh d, e1)
    | _ => none)
def asArgs : List Md → List R → Env → Option (List O × Env)
  | _, [], e => some ([], e)
  | ms, r :: rs, e => match asArg (ms.headD .lk) r e with
    | some (o, e1) => (match asArgs ms.tail rs e1 with
      | some (os, e2) => some (o :: os, e2)
      | none => none)
    | none => none
/-- what was lent comes back -/
def back : List Md → List R → List O → Env → Env
  | ms, r :: rs, o :: os, e => (match ms.headD .lk, r with
    | .bo, .sl i => back ms.tail rs os (e.set i (some o))
    | _, _ => back ms.tail rs os e)
  | _, _, _, e => e
def ofRes (o : O) : R := match o with
  | .sh d => .d d
  | o => .ow o
/-- behind the call: what was handed as shared data is as it was -/
def mergeO : List O → List O → List O
  | .sh d :: os, _ :: os' => .sh d :: mergeO os os'
  | _ :: os, o' :: os' => o' :: mergeO os os'
  | _, _ => []
def mCall (F : Fn) (md : List Md) (dfl : List D) (ms : List (M R)) : M R := fun e => andThen (mRs ms e) fun rs e1 => match asArgs md rs e1 with
  | some (os, e2) => (match F (os ++ dfl.map O.sh) with
    | .rt o os' => .ok (ofRes o) (back md rs (mergeO (os ++ dfl.map O.sh) os') e2)
    | .ex c p os' => .ex c p (back md rs (mergeO (os ++ dfl.map O.sh) os') e2)
    | .bad => .bad)
  | none => .bad
/-! ### statements -/
def sBad : MS := fun _ => .bad
def sPass : MS := fun e => .nx e
def sSeq (a b : MS) : MS := fun e => match a e with
  | .nx e1 => b e1
  | r => r
def sOf {α : Type} (r : Rs α) (f : α → Env → SR) : SR := match r with
  | .ok a e => f a e
  | .ex c p e => .ex c p e
  | .bad => .bad
def sBrk : MS := fun e => .bk e
def sCnt : MS := fun e => .ct e
def sExp (a : M R) : MS := fun e => sOf (a e) fun _ e1 => .nx e1
/-- the result: a name's thing goes out with it -/
def sRet (a : M R) : MS := fun e => sOf (a e) fun r e1 => match r with
  | .d x => .rt (.sh x) e1
  | .ow o => .rt o e1
  | .sl i => (match slot e1 i with
    | some (.sh d) => .rt (.sh d) e1
    | some o => .rt o (e1.set i none)
    | none => .bad)
def sRetN : MS := fun e => .rt (.sh .non) e
def sIf (c : M Bool) (a b : MS) : MS := fun e => sOf (c e) fun x e1 => if x = true then a e1 else b e1
/-- x = e -/
def setR (i : Nat) (r : R) (e1 : Env) : SR := match r with
  | .ow o => .nx (e1.set i (some o))
  | r => sOf (leak r e1) fun d e2 => .nx (e2.set i (some (.sh d)))
def sSet (i : Nat) (a : M R) : MS := fun e => sOf (a e) fun r e1 => setR i r e1
/-- a target -/
inductive Tg where
  | nm (i : Nat) | tp (l : List Tg)
mutual
def Tg.put : Tg → D → Env → Option Env
  | .nm i, d, e => some (e.set i (some (.sh d)))
  | .tp ts, .tup ds, e => putAll ts ds e
  | .tp _, _, _ => none
def putAll : List Tg → List D → Env → Option Env
  | [], [], e => some e
  | t :: ts, d :: ds, e => match t.put d e with
    | some e1 => putAll ts ds e1
    | none => none
  | _, _, _ => none
end
/-- several answers, new things left as they are -/
def mOs : List (M R) → M (List O)
  | [], e => .ok [] e
  | m :: ms, e => andThen (m e) fun r e1 => match r with
    | .ow o => andThen (mOs ms e1) fun os e2 => .ok (o :: os) e2
    | r => andThen (leak r e1) fun d e2 => andThen (mOs ms e2) fun os e3 => .ok (.sh d :: os) e3
def setAll : List Nat → List O → Env → Option Env
  | [], [], e => some e
  | i :: is, o :: os, e => setAll is os (e.set i (some o))
  | _, _, _ => none
def ofOS {α : Type} (x : Option α) (f : α → SR) : SR := match x with
  | some a => f a
  | none => .bad
/-- a, b = e -/
def sUnp (t : Tg) (a : M R) : MS := fun e => sOf (a e) fun r e1 => sOf (leak r e1) fun d e2 => ofOS (t.put d e2) .nx
/-- x, y = a, b -/
def sPar (is : List Nat) (ms : List (M R)) : MS := fun e => sOf (mOs ms e) fun os e1 => ofOS (setAll is os e1) .nx
/-- x op= e -/
def sAug (i : Nat) (f : D → D → Option D) (a : M R) : MS := fun e => match slot e i with
  | some _ => sOf (a e) fun r e1 => ofOS (peek (.sl i) e1) fun x => ofOS (peek r e1) fun y => ofOS (f x y) fun z => .nx (e1.set i (some (.sh z)))
  | none => .bad
/-- xs[k] = v, xs a name's own list -/
def sSto (i : Nat) (k v : M R) : MS := fun e => sOf (v e) fun r e1 => sOf (leak r e1) fun d e2 => match slot e2 i with
  | some _ => sOf (k e2) fun q e3 => ofOS (peek q e3) fun j => (match slot e3 i, j with
    | some (.fl l), .int j => (match ixI l.length j with
      | some n => .nx (e3.set i (some (.fl (l.set n d))))
      | none => .bad)
    | _, _ => .bad)
  | none => .bad
/-- a loop over items that stand -/
def forL (t : Tg) (body : MS) : List D → MS
  | [], e => .nx e
  | d :: ds, e => match t.put d e with
    | some e1 => (match body e1 with
      | .nx e2 => forL t body ds e2
      | .ct e2 => forL t body ds e2
      | .bk e2 => .nx e2
      | r => r)
    | none => .bad
def sFor (t : Tg) (it : M (List D)) (body : MS) : MS := fun e => sOf (it e) fun ds e1 => forL t body ds e1
/-- a while, at most so many turns -/
def whL (c : M Bool) (body : MS) : Nat → MS
  | 0, _ => .bad
  | n + 1, e => match c e with
    | .ok true e1 => (match body e1 with
      | .nx e2 => whL c body n e2
      | .ct e2 => whL c body n e2
      | .bk e2 => .nx e2
      | r => r)
    | .ok false e1 => .nx e1
    | .ex k p e1 => .ex k p e1
    | .bad => .bad
def sWhile (n : Nat) (c : M Bool) (body : MS) : MS := whL c body n
/-! ### what is walked: items kept (they stand while the loop runs) -/
def mIt (f : D → Option (List D)) (a : M R) : M (List D) := fun e => andThen (a e) fun r e1 => andThen (leak r e1) fun d e2 => ofO (f d) fun l => .ok l e2
/-! ### comprehensions: own slots are wiped ahead of each turn; t: the target, c: the tests, v: the element -/
def wipeE : Env → List Nat → Env
  | e, [] => e
  | e, i :: is => wipeE (e.set i none) is
/-- behind it the own slots hold what they held, if this was shared data -/
def unwipe (e0 : Env) : Env → List Nat → Env
  | e, [] => e
  | e, i :: is => match slot e0 i with
    | some (.sh d) => unwipe e0 (e.set i (some (.sh d))) is
    | _ => unwipe e0 e is
def lcL (own : List Nat) (t : Tg) (c : M Bool) (v : M R) : List D → List D → Env → Rs (List D)
  | [], acc, e => .ok acc e
  | d :: ds, acc, e => match t.put d e with
    | some e1 => (match c e1 with
      | .ok true e2 => (match v e2 with
        | .ok r e3 => (match leak r e3 with
          | .ok x e4 => lcL own t c v ds (acc ++ [x]) (wipeE e4 own)
          | _ => .bad)
        | _ => .bad)
      | .ok false e2 => lcL own t c v ds acc (wipeE e2 own)
      | _ => .bad)
    | none => .bad
def lcEnd (e1 : Env) (own : List Nat) : Rs (List D) → Rs R
  | .ok l e2 => .ok (.ow (.fl l)) (unwipe e1 e2 own)
  | _ => .bad
def mLc (own : List Nat) (t : Tg) (it : M (List D)) (c : M Bool) (v : M R) : M R := fun e => andThen (it e) fun ds e1 => if ds.length ≤ lim then lcEnd e1 own (lcL own t c v ds [] (wipeE e1 own)) else .bad
def mYes : M Bool := fun e => .ok true e
/-! ### match on texts -/
/-- the cases: texts (none: any subject), body -/
def mtL : List (Option (List (List Nat)) × MS) → List Nat → MS
  | [], _, e => .nx e
  | (p, b) :: r, x, e => if (match p with | none => true | some l => l.contains x) = true then b e else mtL r x e
def sMatch (a : M R) (cs : List (Option (List (List Nat)) × MS)) : MS := fun e => sOf (a e) fun r e1 => match peek r e1 with
  | some (.str x) => mtL cs x e1
  | _ => .bad
/-! ### a def -/
def allO : List (Option O) → Option (List O)
  | [] => some []
  | some o :: r => (allO r).map (o :: ·)
  | none :: _ => none
def endF (n : Nat) (e : Env) : Option (List O) := allO (e.take n)
/-- things that are lent stand at the parameters of pr alone -/
def gdO (pr : Nat → Bool) : Nat → List O → Bool
  | _, [] => true
  | i, .sh _ :: r => gdO pr (i + 1) r
  | i, _ :: r => pr i && gdO pr (i + 1) r
def finR (n : Nat) : SR → FR
  | .nx e => (match endF n e with
    | some os' => .rt (.sh .non) os'
    | none => .bad)
  | .rt o e => (match endF n e with
    | some os' => .rt o os'
    | none => .bad)
  | .ex c p e => (match endF n e with
    | some os' => .ex c p os'
    | none => .bad)
  | _ => .bad
def runF (pr : Nat → Bool) (n k : Nat) (m : MS) : Fn := fun os => if gdO pr 0 os = true then finR n (m (os.map some ++ List.replicate k none)) else .bad
/-! ### operations on data -/
def mulOk (i j : Int) : Bool := (decide (-18446744073709551616 < i) && decide (i < 18446744073709551616)) || (decide (-18446744073709551616 < j) && decide (j < 18446744073709551616))
def addD : D → D → Option D
  | .int i, .int j => some (.int (i + j))
  | .str x, .str y => if x.length + y.length ≤ lim then some (.str (x ++ y)) else none
  | _, _ => none
def subD : D → D → Option D
  | .int i, .int j => some (.int (i - j))
  | _, _ => none
def mulD : D → D → Option D
  | .int i, .int j => if mulOk i j = true then some (.int (i * j)) else none
  | _, _ => none
def divD : D → D → Option D
  | .int i, .int j => if 0 < j ∧ j < 1073741824 then some (.int (i / j)) else none
  | _, _ => none
def modD : D → D → Option D
  | .int i, .int j => if 0 < j then some (.int (i % j)) else none
  | _, _ => none
def powD : D → D → Option D
  | .int i, .int j => if 0 ≤ j ∧ j ≤ 1000000 ∧ i.natAbs < 18446744073709551616 then some (.int (i ^ j.toNat)) else none
  | _, _ => none
def negD : D → Option D
  | .int i => some (.int (-i))
  | _ => none
/-! equality: plain data -/
mutual
def D.pl : D → Bool
  | .non | .bl _ | .int _ | .str _ => true
  | .tup l | .lst l => pls l
  | .dct _ | .obj _ _ | .ex _ _ => false
def pls : List D → Bool
  | [] => true
  | d :: ds => d.pl && pls ds
end
mutual
def D.dp : D → Nat
  | .tup l | .lst l => dps l + 1
  | _ => 0
def dps : List D → Nat
  | [] => 0
  | d :: ds => max d.dp (dps ds)
end
mutual
def eqB : D → D → Bool
  | .non, .non => true
  | .bl a, .bl b => a == b
  | .bl a, .int j => (if a then 1 else 0) == j
  | .int i, .bl b => i == (if b then 1 else 0)
  | .int i, .int j => i == j
  | .str x, .str y => x == y
  | .lst xs, .lst ys => eqBs xs ys
  | .tup xs, .tup ys => eqBs xs ys
  | _, _ => false
def eqBs : List D → List D → Bool
  | [], [] => true
  | x :: xs, y :: ys => eqB x y && eqBs xs ys
  | _, _ => false
end
def cmpOk (a b : D) : Bool := a.pl && b.pl && (decide (a.dp ≤ 50) || decide (b.dp ≤ 50))
def eqD (a b : D) : Option D := if cmpOk a b = true then some (.bl (eqB a b)) else none
def neD (a b : D) : Option D := if cmpOk a b = true then some (.bl (!eqB a b)) else none
def ltD : D → D → Option D
  | .int i, .int j => some (.bl (decide (i < j)))
  | .str x, .str y => some (.bl (decide (x < y)))
  | _, _ => none
def gtD : D → D → Option D
  | .int i, .int j => some (.bl (decide (j < i)))
  | .str x, .str y => some (.bl (decide (y < x)))
  | _, _ => none
def geD : D → D → Option D
  | .int i, .int j => some (.bl (decide (j ≤ i)))
  | _, _ => none
def isNone : D → Bool
  | .non => true
  | _ => false
def isD : D → D → Option D
  | a, .non => some (.bl (isNone a))
  | _, _ => none
def isntD : D → D → Option D
  | a, .non => some (.bl (!isNone a))
  | _, _ => none
/-- x += y of ints -/
def addI : D → D → Option D
  | .int i, .int j => some (.int (i + j))
  | _, _ => none
/-- x in y: a sign in a text; among the items of a list, a tuple -/
def inB : D → D → Option Bool
  | .str [k], .str y => some (decide (k ∈ y))
  | x, .lst l => if x.pl && pls l && decide (x.dp ≤ 50) then some (l.any fun y => eqB y x) else none
  | x, .tup l => if x.pl && pls l && decide (x.dp ≤ 50) then some (l.any fun y => eqB y x) else none
  | _, _ => none
def inD (x y : D) : Option D := (inB x y).map D.bl
def ninD (x y : D) : Option D := (inB x y).map fun b => D.bl (!b)
def ixD : D → D → Option D
  | .lst l, .int i => getI l i
  | .tup l, .int i => getI l i
  | .str x, .int i => (getI x i).map fun k => .str [k]
  | _, _ => none
def cutI (n d : Nat) : Option Int → Nat
  | none => d
  | some v => if v < 0 then (v + (n : Int)).toNat else min v.toNat n
def cut {α : Type} (l : List α) (lo hi : Option Int) : List α := (l.drop (cutI l.length 0 lo)).take (cutI l.length l.length hi - cutI l.length 0 lo)
/-- built-ins by values -/
def slS : D → Option Int → Option Int → Option D
  | .str x, lo, hi => some (.str (cut x lo hi))
  | _, _, _ => none
def slL : D → Option Int → Option Int → Option (List D)
  | .lst l, lo, hi => some (cut l lo hi)
  | _, _, _ => none
def keyD : D → Option Ky
  | .int i => some (.i i)
  | .str x => some (.s x)
  | _ => none
def lookK : List (Ky × D) → Ky → Option D
  | [], _ => none
  | (k, d) :: r, q => if q = k then some d else lookK r q
/-- d[k] -/
def getKD : D → D → Option D
  | .dct l, k => (keyD k).bind (lookK l)
  | _, _ => none
/-- a written table of texts -/
def tabD (l : List (List Nat × D)) : D → Option D
  | .str x => l.lookup x
  | _ => none
/-- isinstance with a built-in class -/
inductive Ty where
  | str | int | bool | list | tuple | dict
  deriving DecidableEq
def isTy : Ty → D → Option Bool
  | .str, .str _ => some true
  | .int, .int _ => some true
  | .int, .bl _ => some true
  | .bool, .bl _ => some true
  | .list, .lst _ => some true
  | .tuple, .tup _ => some true
  | .dict, .dct _ => some true
  | _, .obj _ _ => none
  | _, .ex _ _ => none
  | _, _ => some false
def isiD (t : Ty) (d : D) : Option D := (isTy t d).map D.bl
/-- what is walked -/
def itL : D → Option (List D)
  | .lst l => some l
  | _ => none
def itT : D → Option (List D)
  | .tup l => some l
  | _ => none
def itS : D → Option (List D)
  | .str x => some (x.map fun k => .str [k])
  | _ => none
def enumF : Nat → List D → List D
  | _, [] => []
  | n, d :: ds => .tup [.int n, d] :: enumF (n + 1) ds
def itEL : D → Option (List D)
  | .lst l => some (enumF 0 l)
  | _ => none
def itES : D → Option (List D)
  | .str x => some (enumF 0 (x.map fun k => .str [k]))
  | _ => none
def rngF (lo : Int) : Nat → List D
  | 0 => []
  | n + 1 => .int lo :: rngF (lo + 1) n
def itR1 : D → Option (List D)
  | .int j => if -4611686018427387904 ≤ j ∧ j < 4611686018427387904 then some (rngF 0 j.toNat) else none
  | _ => none
def lenD : List D → Option D
  | [.str x] => some (.int x.length)
  | [.lst l] => some (.int l.length)
  | [.tup l] => some (.int l.length)
  | _ => none
def intD : List D → Option D
  | [.int i] => some (.int i)
  | [.bl b] => some (.int (if b then 1 else 0))
  | _ => none
def absD : List D → Option D
  | [.int i] => some (.int (if i < 0 then -i else i))
  | _ => none
def max2D : List D → Option D
  | [.int i, .int j] => some (.int (if j > i then j else i))
  | _ => none
def min2D : List D → Option D
  | [.int i, .int j] => some (.int (if j < i then j else i))
  | _ => none
def strsOf : List D → Option (List (List Nat))
  | [] => some []
  | .str x :: r => (strsOf r).map (x :: ·)
  | _ :: _ => none
def joinN (s : List Nat) : List (List Nat) → List Nat
  | [] => []
  | [p] => p
  | p :: q :: r => p ++ (s ++ joinN s (q :: r))
def joinD : D → D → Option D
  | .str s, .lst l => (strsOf l).bind fun xs => if (xs.map List.length).sum + xs.length * s.length ≤ lim then some (.str (joinN s xs)) else none
  | .str s, .tup l => (strsOf l).bind fun xs => if (xs.map List.length).sum + xs.length * s.length ≤ lim then some (.str (joinN s xs)) else none
  | _, _ => none
def catL : D → D → Option (List D)
  | .lst a, .lst b => if a.length + b.length ≤ lim then some (a ++ b) else none
  | _, _ => none
end F
end

section
set_option autoImplicit false
set_option Elab.async false
set_option linter.all false
set_option maxRecDepth 100000
/-! F layer, part B: data in the abstract heap. -/
namespace F
open PySem PySem.Spec PyProof.Rows L2
abbrev St := L2.St
structure Cn where
  K : PySem.W.Frag
  cls : Nat → Addr
  fld : Nat → List Str
  tabs : List (Addr × Option Str)
  ex : Nat → D → V → Hp → Prop
  exM : ∀ (k : Nat) (d : D) (v : V) (H H' : Hp), Same H H' → ex k d v H → ex k d v H'
  exR : ∀ (k : Nat) (d : D) (v : V) (H : Hp), ex k d v H → ∃ a, v = .ref a
def sS (x : List Nat) : Str := ⟨x.toArray⟩
def kyK : Ky → Key
  | .i n => .inl n
  | .s x => .inr (sS x)
mutual
def Dat (c : Cn) (H : Hp) : D → V → Prop
  | .non, v => v = .non
  | .bl b, v => v = .bl b
  | .int i, v => v = .int i
  | .str x, v => v = .str (sS x) ∧ x.length ≤ lim
  | .tup l, v => l.length ≤ lim ∧ ∃ a vs, v = .ref a ∧ SqT c.K H a vs ∧ Dats c H l vs
  | .lst l, v => l.length ≤ lim ∧ ∃ a vs, v = .ref a ∧ SqL c.K H a vs ∧ Dats c H l vs
  | .dct l, v => l.length ≤ lim ∧ ∃ a kvs, v = .ref a ∧ Rd H a (.dK kvs) ∧ DatK c H l kvs
  | .obj k l, v => ∃ a dx fs, v = .ref a ∧ H a = some (.ins (c.cls k) dx fs) ∧ fs.map (·.1) = (c.fld k).take l.length ∧ Dats c H l (fs.map (·.2))
  | .ex k d, v => c.ex k d v H
def Dats (c : Cn) (H : Hp) : List D → List V → Prop
  | [], vs => vs = []
  | d :: ds, vs => ∃ v r, vs = v :: r ∧ Dat c H d v ∧ Dats c H ds r
def DatK (c : Cn) (H : Hp) : List (Ky × D) → List (Key × V) → Prop
  | [], kvs => kvs = []
  | (k, d) :: r, kvs => ∃ v s, kvs = (kyK k, v) :: s ∧ Dat c H d v ∧ DatK c H r s
end
theorem Rd.same {H H' : Hp} {a : Addr} {u : HO} (e : Same H H') (h : Rd H a u) : Rd H' a u := h.elim (fun h => .inl (e _ _ h)) fun ⟨o, h⟩ => .inr ⟨o, e _ _ h⟩
theorem SqL.same {K : PySem.W.Frag} {H H' : Hp} {a : Addr} {xs : List V} (e : Same H H') (h : SqL K H a xs) : SqL K H' a xs := e.seq h
theorem SqT.same {K : PySem.W.Frag} {H H' : Hp} {a : Addr} {xs : List V} (e : Same H H') (h : SqT K H a xs) : SqT K H' a xs := by
  rcases h with (h | ⟨o, h⟩) | h
  · exact .inl (.inl (e _ _ h))
  · exact .inl (.inr ⟨o, e _ _ h⟩)
  · exact .inr h
section
variable {c : Cn} {H H' : Hp}
mutual
theorem Dat.mono (e : Same H H') : ∀ (d : D) (v : V), Dat c H d v → Dat c H' d v
  | .non, _, h => h
  | .bl _, _, h => h
  | .int _, _, h => h
  | .str _, _, h => h
  | .tup l, _, ⟨hl, a, vs, h1, h2, h3⟩ => ⟨hl, a, vs, h1, SqT.same e h2, Dats.mono e l vs h3⟩
  | .lst l, _, ⟨hl, a, vs, h1, h2, h3⟩ => ⟨hl, a, vs, h1, SqL.same e h2, Dats.mono e l vs h3⟩
  | .dct l, _, ⟨hl, a, kvs, h1, h2, h3⟩ => ⟨hl, a, kvs, h1, Rd.same e h2, DatK.mono e l kvs h3⟩
  | .obj k l, _, ⟨a, dx, fs, h1, h2, h3, h4⟩ => ⟨a, dx, fs, h1, e _ _ h2, h3, Dats.mono e l _ h4⟩
  | .ex k d, _, h => c.exM k d _ _ _ e h
theorem Dats.mono (e : Same H H') : ∀ (l : List D) (vs : List V), Dats c H l vs → Dats c H' l vs
  | [], _, h => h
  | d :: ds, _, ⟨v, r, h1, h2, h3⟩ => ⟨v, r, h1, Dat.mono e d v h2, Dats.mono e ds r h3⟩
theorem DatK.mono (e : Same H H') : ∀ (l : List (Ky × D)) (kvs : List (Key × V)), DatK c H l kvs → DatK c H' l kvs
  | [], _, h => h
  | (k, d) :: r, _, ⟨v, s, h1, h2, h3⟩ => ⟨v, s, h1, Dat.mono e d v h2, DatK.mono e r s h3⟩
end
end
section
variable {c : Cn} {H : Hp}
theorem Dats.len : ∀ {l : List D} {vs : List V}, Dats c H l vs → vs.length = l.length
  | [], _, h => by
    have h : _ = _ := h
    rw [h]
    rfl
  | d :: ds, _, ⟨v, r, h1, _, h3⟩ => by
    subst h1
    rw [List.length_cons, List.length_cons, Dats.len h3]
theorem Dats.app : ∀ {l m : List D} {vs ws : List V}, Dats c H l vs → Dats c H m ws → Dats c H (l ++ m) (vs ++ ws)
  | [], m, _, ws, h, g => by
    have h : _ = _ := h
    rw [h]
    exact g
  | d :: ds, m, _, ws, ⟨v, r, h1, h2, h3⟩, g => by
    subst h1
    exact ⟨v, r ++ ws, rfl, h2, Dats.app h3 g⟩
theorem Dats.one {d : D} {v : V} (h : Dat c H d v) : Dats c H [d] [v] := ⟨v, [], rfl, h, rfl⟩
theorem Dats.get : ∀ {l : List D} {vs : List V} {i : Nat} {d : D}, Dats c H l vs → l[i]? = some d → ∃ v, vs[i]? = some v ∧ Dat c H d v
  | [], _, _, _, _, e => by simp at e
  | d :: ds, _, 0, x, ⟨v, r, h1, h2, h3⟩, e => by
    subst h1
    simp at e
    subst e
    exact ⟨v, rfl, h2⟩
  | d :: ds, _, i + 1, x, ⟨v, r, h1, h2, h3⟩, e => by
    subst h1
    obtain ⟨w, a, b⟩ := Dats.get (i := i) h3 (by simpa using e)
    exact ⟨w, by simpa using a, b⟩
theorem Dats.set {d : D} {v : V} (h : Dat c H d v) : ∀ {l : List D} {vs : List V} (i : Nat), Dats c H l vs → Dats c H (l.set i d) (vs.set i v)
  | [], _, _, g => by
    have g : _ = _ := g
    rw [g]
    rfl
  | x :: ds, _, 0, ⟨w, r, h1, h2, h3⟩ => by
    subst h1
    exact ⟨v, r, rfl, h, h3⟩
  | x :: ds, _, i + 1, ⟨w, r, h1, h2, h3⟩ => by
    subst h1
    exact ⟨w, r.set i v, rfl, h2, Dats.set h i h3⟩
theorem Dats.take : ∀ {l : List D} {vs : List V} (n : Nat), Dats c H l vs → Dats c H (l.take n) (vs.take n)
  | _, _, 0, _ => by simp only [List.take_zero]; rfl
  | [], _, n + 1, g => by
    have g : _ = _ := g
    rw [g]
    rfl
  | x :: ds, _, n + 1, ⟨w, r, h1, h2, h3⟩ => by
    subst h1
    exact ⟨w, r.take n, rfl, h2, Dats.take n h3⟩
theorem Dats.drop : ∀ {l : List D} {vs : List V} (n : Nat), Dats c H l vs → Dats c H (l.drop n) (vs.drop n)
  | _, _, 0, g => by simpa using g
  | [], _, n + 1, g => by
    have g : _ = _ := g
    rw [g]
    rfl
  | x :: ds, _, n + 1, ⟨w, r, h1, h2, h3⟩ => by
    subst h1
    exact Dats.drop n h3
end
/-! ### a thing of one's own: its addresses -/
mutual
def OwnR (c : Cn) (H0 H : Hp) : O → V → List Addr → Prop
  | .sh d, v, as => as = [] ∧ Dat c H0 d v
  | .fl l, v, as => l.length ≤ lim ∧ ∃ a vs, v = .ref a ∧ as = [a] ∧ H a = some (.lst vs) ∧ Dats c H0 l vs
  | .fd l, v, as => l.length ≤ lim ∧ ∃ a kvs, v = .ref a ∧ as = [a] ∧ H a = some (.dK kvs) ∧ DatK c H0 l kvs
  | .fo k os, v, as => ∃ a dx fs bs, v = .ref a ∧ as = a :: dx :: bs ∧ H a = some (.ins (c.cls k) dx fs) ∧ H dx = some (.own a) ∧ fs.map (·.1) = (c.fld k).take os.length ∧ OwnRs c H0 H os (fs.map (·.2)) bs
def OwnRs (c : Cn) (H0 H : Hp) : List O → List V → List Addr → Prop
  | [], vs, as => vs = [] ∧ as = []
  | o :: os, vs, as => ∃ v r bs cs, vs = v :: r ∧ as = bs ++ cs ∧ OwnR c H0 H o v bs ∧ OwnRs c H0 H os r cs
end
/-- H0 with what stands in H at as -/
def addF (H0 H : Hp) (as : List Addr) : Hp := fun b => if b ∈ as then H b else H0 b
theorem addF_in {H0 H : Hp} {as : List Addr} {b : Addr} (h : b ∈ as) : addF H0 H as b = H b := if_pos h
theorem addF_out {H0 H : Hp} {as : List Addr} {b : Addr} (h : b ∉ as) : addF H0 H as b = H0 b := if_neg h
section
variable {c : Cn} {H0 H1 H H' : Hp}
mutual
theorem OwnR.mono (e : Same H0 H1) : ∀ (o : O) (v : V) (as : List Addr), (∀ a ∈ as, H' a = H a) → OwnR c H0 H o v as → OwnR c H1 H' o v as
  | .sh d, _, _, _, ⟨h1, h2⟩ => ⟨h1, Dat.mono e d _ h2⟩
  | .fl l, _, _, k, ⟨hl, a, vs, h1, h2, h3, h4⟩ => ⟨hl, a, vs, h1, h2, by rw [k a (by rw [h2]; simp)]; exact h3, Dats.mono e l vs h4⟩
  | .fd l, _, _, k, ⟨hl, a, vs, h1, h2, h3, h4⟩ => ⟨hl, a, vs, h1, h2, by rw [k a (by rw [h2]; simp)]; exact h3, DatK.mono e l vs h4⟩
  | .fo q os, _, _, k, ⟨a, dx, fs, bs, h1, h2, h3, h4, h5, h6⟩ => ⟨a, dx, fs, bs, h1, h2, by rw [k a (by rw [h2]; simp)]; exact h3, by rw [k dx (by rw [h2]; simp)]; exact h4, h5,
      OwnRs.mono e os _ bs (fun b hb => k b (by rw [h2]; simp [hb])) h6⟩
theorem OwnRs.mono (e : Same H0 H1) : ∀ (os : List O) (vs : List V) (as : List Addr), (∀ a ∈ as, H' a = H a) → OwnRs c H0 H os vs as → OwnRs c H1 H' os vs as
  | [], _, _, _, h => h
  | o :: os, _, _, k, ⟨v, r, bs, cs, h1, h2, h3, h4⟩ => ⟨v, r, bs, cs, h1, h2, OwnR.mono e o v bs (fun a ha => k a (by rw [h2]; exact List.mem_append_left _ ha)) h3, OwnRs.mono e os r cs (fun a ha => k a (by rw [h2]; exact List.mem_append_right _ ha)) h4⟩
end
mutual
theorem OwnR.here : ∀ (o : O) (v : V) (as : List Addr), OwnR c H0 H o v as → ∀ a ∈ as, ∃ x, H a = some x
  | .sh d, _, _, ⟨h1, _⟩, a, ha => by rw [h1] at ha; cases ha
  | .fl l, _, _, ⟨_, b, vs, _, h2, h3, _⟩, a, ha => by
    rw [h2] at ha
    rw [List.mem_singleton.mp ha]
    exact ⟨_, h3⟩
  | .fd l, _, _, ⟨_, b, vs, _, h2, h3, _⟩, a, ha => by
    rw [h2] at ha
    rw [List.mem_singleton.mp ha]
    exact ⟨_, h3⟩
  | .fo q os, _, _, ⟨b, dx, fs, bs, _, h2, h3, h4, _, h6⟩, a, ha => by
    rw [h2] at ha
    rcases List.mem_cons.mp ha with e | ha
    · rw [e]; exact ⟨_, h3⟩
    · rcases List.mem_cons.mp ha with e | ha
      · rw [e]; exact ⟨_, h4⟩
      · exact OwnRs.here os _ bs h6 a ha
theorem OwnRs.here : ∀ (os : List O) (vs : List V) (as : List Addr), OwnRs c H0 H os vs as → ∀ a ∈ as, ∃ x, H a = some x
  | [], _, _, ⟨_, h⟩, a, ha => by rw [h] at ha; cases ha
  | o :: os, _, _, ⟨v, r, bs, cs, _, h2, h3, h4⟩, a, ha => by
    rw [h2] at ha
    rcases List.mem_append.mp ha with ha | ha
    · exact OwnR.here o v bs h3 a ha
    · exact OwnRs.here os r cs h4 a ha
end
mutual
/-- kept from now on: data over H0 with its addresses -/
theorem OwnR.dat : ∀ (o : O) (v : V) (as : List Addr), OwnR c H0 H o v as → Same H0 H1 → (∀ a ∈ as, H1 a = H a) → Dat c H1 o.frz v
  | .sh d, v, _, ⟨_, h⟩, e, _ => Dat.mono e d v h
  | .fl l, v, _, ⟨hl, a, vs, h1, h2, h3, h4⟩, e, k => ⟨hl, a, vs, h1, SqL.of (by rw [k a (by rw [h2]; simp)]; exact h3), Dats.mono e l vs h4⟩
  | .fd l, v, _, ⟨hl, a, vs, h1, h2, h3, h4⟩, e, k => ⟨hl, a, vs, h1, .inl (by rw [k a (by rw [h2]; simp)]; exact h3), DatK.mono e l vs h4⟩
  | .fo q os, v, _, ⟨a, dx, fs, bs, h1, h2, h3, h4, h5, h6⟩, e, k => ⟨a, dx, fs, h1, (by rw [k a (by rw [h2]; simp)]; exact h3), by rw [h5, OwnRs.frlen os],
      OwnRs.dat os _ bs h6 e fun b hb => k b (by rw [h2]; simp [hb])⟩
theorem OwnRs.dat : ∀ (os : List O) (vs : List V) (as : List Addr), OwnRs c H0 H os vs as → Same H0 H1 → (∀ a ∈ as, H1 a = H a) → Dats c H1 (frzs os) vs
  | [], _, _, ⟨h, _⟩, _, _ => h
  | o :: os, _, _, ⟨v, r, bs, cs, h1, h2, h3, h4⟩, e, k => ⟨v, r, h1, OwnR.dat o v bs h3 e fun a ha => k a (by rw [h2]; exact List.mem_append_left _ ha), OwnRs.dat os r cs h4 e fun a ha => k a (by rw [h2]; exact List.mem_append_right _ ha)⟩
theorem OwnRs.frlen : ∀ os : List O, os.length = (frzs os).length
  | [] => rfl
  | o :: os => by
    show os.length + 1 = (frzs os).length + 1
    rw [OwnRs.frlen os]
end
end
/-! ### tables of code objects -/
def TabAt (H0 H : Hp) (p : Addr × Option Str) : Prop := ∃ ps : Array Value, H p.1 = some (.tbl ps) ∧ TriplesOk ps.toList ∧ ∀ q, p.2 = some q → ∀ (pos : Pos) (cv : Value), codeAmong pos ps.toList = some cv → ∃ a, cv = .ref a ∧ H0 a = some (LamX.CodeO a q)
structure TabR (c : Cn) (H0 Fr H : Hp) (as : Nat → List Addr) : Prop where
  at_ : ∀ p ∈ c.tabs, TabAt H0 H p
  n0 : ∀ p ∈ c.tabs, H0 p.1 = none
  nF : ∀ p ∈ c.tabs, Fr p.1 = none
  na : ∀ p ∈ c.tabs, ∀ i, p.1 ∉ as i
theorem TabAt.mono {H0 H1 H H' : Hp} {p : Addr × Option Str} (s : Same H0 H1) (e : H' p.1 = H p.1) (t : TabAt H0 H p) : TabAt H1 H' p := by
  obtain ⟨ps, h1, h2, h3⟩ := t
  refine ⟨ps, e.trans h1, h2, fun q hq pos cv hc => ?_⟩
  obtain ⟨a, e1, e2⟩ := h3 q hq pos cv hc
  exact ⟨a, e1, s _ _ e2⟩
theorem TabAt.ne {H0 H : Hp} {p : Addr × Option Str} {b : Addr} (t : TabAt H0 H p) (h : H b = none) : p.1 ≠ b := by
  obtain ⟨ps, h1, _, _⟩ := t
  exact ne_of_none h1 h
/-- a table's place is none of one's own things -/
theorem TabR.ne {c : Cn} {H0 Fr H : Hp} {as : Nat → List Addr} (t : TabR c H0 Fr H as) {p : Addr × Option Str} (hp : p ∈ c.tabs) {b : Addr} (h : H b = none) : p.1 ≠ b := (t.at_ p hp).ne h
theorem TabR.ne_as {c : Cn} {H0 Fr H : Hp} {as : Nat → List Addr} (t : TabR c H0 Fr H as) {p : Addr × Option Str} (hp : p ∈ c.tabs) {b : Addr} {i : Nat} (h : b ∈ as i) : p.1 ≠ b := fun z => t.na p hp i (z ▸ h)
theorem TabR.re {c : Cn} {H0 H1 Fr Fr' H H' : Hp} {as as' : Nat → List Addr} (t : TabR c H0 Fr H as) (s : Same H0 H1) (eH : ∀ p ∈ c.tabs, H' p.1 = H p.1) (e0 : ∀ p ∈ c.tabs, H1 p.1 = none) (eF : ∀ p ∈ c.tabs, Fr' p.1 = none) (ea : ∀ p ∈ c.tabs, ∀ i, p.1 ∉ as' i) : TabR c H1 Fr' H' as' :=
  ⟨fun p hp => (t.at_ p hp).mono s (eH p hp), e0, eF, ea⟩
theorem TabR.sub {c : Cn} {H0 Fr H : Hp} {as as' : Nat → List Addr} (t : TabR c H0 Fr H as) (h : ∀ i a, a ∈ as' i → ∃ j, a ∈ as j) : TabR c H0 Fr H as' :=
  ⟨t.at_, t.n0, t.nF, fun p hp i z => let ⟨j, q⟩ := h i _ z; t.na p hp j q⟩
/-! ### the names' things -/
structure Rp (c : Cn) (H0 Fr H : Hp) (σ : St) (env : Env) (as : Nat → List Addr) : Prop where
  len : env.length = σ.length
  sub : Same H0 H
  fr : ∀ b o, Fr b = some o → H b = some o ∧ H0 b = none
  own : ∀ i o, slot env i = some o → ∃ v, σ[i]? = some (some v) ∧ OwnR c H0 H o v (as i)
  off : ∀ i, ∀ a ∈ as i, H0 a = none ∧ Fr a = none
  sep : ∀ i j a, a ∈ as i → a ∈ as j → i = j
  nd : ∀ i, (as i).Nodup
  emp : ∀ i, slot env i = none → as i = []
  tab : TabR c H0 Fr H as
theorem slot_lt {e : Env} {i : Nat} {o : O} (h : slot e i = some o) : i < e.length := by
  unfold slot at h
  split at h
  · rename_i q
    exact (List.getElem?_eq_some_iff.mp q).1
  · cases h
theorem slot_set {e : Env} {i j : Nat} {x : Option O} (h : i < e.length) : slot (e.set i x) j = if j = i then x else slot e j := by
  unfold slot
  by_cases q : j = i
  · subst q
    rw [List.getElem?_set_self h, if_pos rfl]
    cases x <;> rfl
  · rw [List.getElem?_set_ne (Ne.symm q), if_neg q]
theorem slot_set_ge {e : Env} {i : Nat} {x : Option O} (h : ¬ i < e.length) : e.set i x = e := List.set_eq_of_length_le (Nat.le_of_not_lt h)
theorem slot_set_ne {e : Env} {i j : Nat} {x : Option O} (h : j ≠ i) : slot (e.set i x) j = slot e j := by
  unfold slot
  rw [List.getElem?_set_ne (Ne.symm h)]
theorem slot_none {e : Env} {i j : Nat} {o : O} (h : slot (e.set i none) j = some o) : j ≠ i ∧ slot e j = some o := by
  by_cases hl : i < e.length
  · rw [slot_set hl] at h
    split at h
    · cases h
    · exact ⟨by assumption, h⟩
  · rw [slot_set_ge hl] at h
    exact ⟨fun q => hl (q ▸ slot_lt h), h⟩
section
variable {c : Cn} {H0 Fr H : Hp} {σ : St} {env : Env} {as : Nat → List Addr}
theorem Rp.mem (r : Rp c H0 Fr H σ env as) {i : Nat} {a : Addr} (h : a ∈ as i) : ∃ o, slot env i = some o := by
  cases q : slot env i with
  | none =>
    rw [r.emp i q] at h
    cases h
  | some o => exact ⟨o, rfl⟩
theorem Rp.here (r : Rp c H0 Fr H σ env as) {i : Nat} {a : Addr} (h : a ∈ as i) : ∃ x, H a = some x := by
  obtain ⟨o, e⟩ := r.mem h
  obtain ⟨v, _, q⟩ := r.own i o e
  exact OwnR.here o v _ q a h
/-- what a name holds, read -/
theorem Rp.peek (r : Rp c H0 Fr H σ env as) {i : Nat} {o : O} (e : slot env i = some o) : ∃ v, σ[i]? = some (some v) ∧ Dat c H o.frz v := by
  obtain ⟨v, h1, h2⟩ := r.own i o e
  exact ⟨v, h1, OwnR.dat o v _ h2 r.sub fun _ _ => rfl⟩
theorem same_addF' {bs : List Addr} (h : ∀ a ∈ bs, H0 a = none) : Same H0 (addF H0 H bs) := fun b o e => by
  rw [addF_out (fun q => by rw [h b q] at e; cases e)]
  exact e
/-- another as at one place -/
def setA (as : Nat → List Addr) (i : Nat) (bs : List Addr) : Nat → List Addr := fun j => if j = i then bs else as j
theorem setA_same {i : Nat} {bs : List Addr} : setA as i bs i = bs := if_pos rfl
theorem setA_ne {i j : Nat} {bs : List Addr} (h : j ≠ i) : setA as i bs j = as j := if_neg h
theorem setA_mem {i j : Nat} {a : Addr} (h : a ∈ setA as i [] j) : j ≠ i ∧ a ∈ as j := by
  unfold setA at h
  split at h
  · cases h
  · exact ⟨by assumption, h⟩
/-- a name's thing is kept from now on as shared data -/
theorem Rp.freeze (r : Rp c H0 Fr H σ env as) {i : Nat} {o : O} (e : slot env i = some o) : ∃ H1 v, Same H0 H1 ∧ Rp c H1 Fr H σ (env.set i (some (.sh o.frz))) (setA as i []) ∧ σ[i]? = some (some v) ∧ Dat c H1 o.frz v := by
  obtain ⟨v, h1, h2⟩ := r.own i o e
  have hl := slot_lt e
  have s1 : Same H0 (addF H0 H (as i)) := same_addF' fun a ha => (r.off i a ha).1
  have hd : Dat c (addF H0 H (as i)) o.frz v := OwnR.dat o v _ h2 s1 fun a ha => addF_in ha
  refine ⟨addF H0 H (as i), v, s1, ⟨by simpa using r.len, ?_, ?_, ?_, ?_, ?_, ?_, ?_, r.tab.re s1 (fun _ _ => rfl) (fun p hp => by rw [addF_out (r.tab.na p hp i)]; exact r.tab.n0 p hp) r.tab.nF fun p hp j z => r.tab.na p hp j (setA_mem z).2⟩, h1, hd⟩
  · intro b x hb
    by_cases q : b ∈ as i
    · rw [addF_in q] at hb
      exact hb
    · rw [addF_out q] at hb
      exact r.sub b x hb
  · intro b x hb
    refine ⟨(r.fr b x hb).1, ?_⟩
    rw [addF_out fun q => by rw [(r.off i b q).2] at hb; cases hb]
    exact (r.fr b x hb).2
  · intro j o' ej
    rw [slot_set hl] at ej
    by_cases q : j = i
    · rw [if_pos q] at ej
      cases ej
      subst q
      exact ⟨v, h1, by rw [setA_same]; exact ⟨rfl, hd⟩⟩
    · rw [if_neg q] at ej
      obtain ⟨v', g1, g2⟩ := r.own j o' ej
      exact ⟨v', g1, by rw [setA_ne q]; exact OwnR.mono s1 o' v' _ (fun _ _ => rfl) g2⟩
  · intro j a ha
    obtain ⟨hj, ha⟩ := setA_mem ha
    refine ⟨?_, (r.off j a ha).2⟩
    rw [addF_out fun q => hj (r.sep j i a ha q)]
    exact (r.off j a ha).1
  · intro j k a ha hk
    exact r.sep j k a (setA_mem ha).2 (setA_mem hk).2
  · intro j
    by_cases q : j = i
    · rw [q, setA_same]; exact List.nodup_nil
    · rw [setA_ne q]; exact r.nd j
  · intro j ej
    by_cases q : j = i
    · rw [q, setA_same]
    · rw [setA_ne q]
      rw [slot_set hl, if_neg q] at ej
      exact r.emp j ej
/-- a new thing that is shared -/
theorem Rp.alloc (r : Rp c H0 Fr H σ env as) {p : Addr} {x : HO} (hp : H p = none) : Same H0 (upd H0 p x) ∧ Rp c (upd H0 p x) Fr (upd H p x) σ env as := by
  have h0 : H0 p = none := by
    cases q : H0 p with
    | none => rfl
    | some y =>
      rw [r.sub p y q] at hp
      cases hp
  have s1 : Same H0 (upd H0 p x) := fun b o e => by rw [upd_ne (ne_of_none e h0)]; exact e
  refine ⟨s1, r.len, ?_, ?_, ?_, ?_, r.sep, r.nd, r.emp, r.tab.re s1 (fun p q => upd_ne (r.tab.ne q hp)) (fun p q => by rw [upd_ne (r.tab.ne q hp)]; exact r.tab.n0 p q) r.tab.nF r.tab.na⟩
  · intro b o e
    by_cases q : b = p
    · subst q
      rw [upd_same] at e ⊢
      exact e
    · rw [upd_ne q] at e ⊢
      exact r.sub b o e
  · intro b o e
    have q : b ≠ p := ne_of_none (r.fr b o e).1 hp
    rw [upd_ne q, upd_ne q]
    exact r.fr b o e
  · intro i o e
    obtain ⟨v, h1, h2⟩ := r.own i o e
    refine ⟨v, h1, OwnR.mono s1 o v _ (fun a ha => ?_) h2⟩
    obtain ⟨y, hy⟩ := r.here ha
    rw [upd_ne (ne_of_none hy hp)]
  · intro i a ha
    obtain ⟨y, hy⟩ := r.here ha
    rw [upd_ne (ne_of_none hy hp)]
    exact r.off i a ha
/-- a name is forgotten; what it alone held goes to the frame of the proof or away -/
theorem Rp.drop (r : Rp c H0 Fr H σ env as) (i : Nat) : Rp c H0 Fr H σ (env.set i none) (setA as i []) := by
  refine ⟨by simpa using r.len, r.sub, r.fr, ?_, ?_, ?_, ?_, ?_, r.tab.sub fun i a z => ⟨i, (setA_mem z).2⟩⟩
  · intro j o e
    obtain ⟨hj, e⟩ := slot_none e
    obtain ⟨v, h1, h2⟩ := r.own j o e
    exact ⟨v, h1, by rw [setA_ne hj]; exact h2⟩
  · intro j a ha
    exact r.off j a (setA_mem ha).2
  · intro j k a ha hk
    exact r.sep j k a (setA_mem ha).2 (setA_mem hk).2
  · intro j
    by_cases q : j = i
    · rw [q, setA_same]; exact List.nodup_nil
    · rw [setA_ne q]; exact r.nd j
  · intro j e
    by_cases q : j = i
    · rw [q, setA_same]
    · rw [setA_ne q]
      rw [slot_set_ne q] at e
      exact r.emp j e
/-- a name gets shared data -/
theorem Rp.setSh (r : Rp c H0 Fr H σ env as) {i : Nat} {d : D} {v : V} (h : Dat c H0 d v) : Rp c H0 Fr H (σ.set i (some v)) (env.set i (some (.sh d))) (setA as i []) := by
  refine ⟨by simpa using r.len, r.sub, r.fr, ?_, ?_, ?_, ?_, ?_, r.tab.sub fun i a z => ⟨i, (setA_mem z).2⟩⟩
  · intro j o e
    by_cases hl : i < env.length
    · rw [slot_set hl] at e
      by_cases q : j = i
      · rw [if_pos q] at e
        cases e
        subst q
        exact ⟨v, List.getElem?_set_self (by rw [← r.len]; exact hl), by rw [setA_same]; exact ⟨rfl, h⟩⟩
      · rw [if_neg q] at e
        obtain ⟨w, h1, h2⟩ := r.own j o e
        exact ⟨w, by rw [List.getElem?_set_ne (Ne.symm q)]; exact h1, by rw [setA_ne q]; exact h2⟩
    · rw [slot_set_ge hl] at e
      have q : j ≠ i := fun q => hl (q ▸ slot_lt e)
      obtain ⟨w, h1, h2⟩ := r.own j o e
      exact ⟨w, by rw [List.getElem?_set_ne (Ne.symm q)]; exact h1, by rw [setA_ne q]; exact h2⟩
  · intro j a ha
    exact r.off j a (setA_mem ha).2
  · intro j k a ha hk
    exact r.sep j k a (setA_mem ha).2 (setA_mem hk).2
  · intro j
    by_cases q : j = i
    · rw [q, setA_same]; exact List.nodup_nil
    · rw [setA_ne q]; exact r.nd j
  · intro j e
    by_cases q : j = i
    · rw [q, setA_same]
    · rw [setA_ne q]
      rw [slot_set_ne q] at e
      exact r.emp j e
/-- the proof's frame: other slots of the machine's list of names -/
theorem Rp.other (r : Rp c H0 Fr H σ env as) {σ' : St} (hl : σ'.length = σ.length) (h : ∀ i o, slot env i = some o → σ'[i]? = σ[i]?) : Rp c H0 Fr H σ' env as :=
  ⟨by rw [hl]; exact r.len, r.sub, r.fr, fun i o e => by rw [h i o e]; exact r.own i o e, r.off, r.sep, r.nd, r.emp, r.tab⟩
/-- the heap grows elsewhere: new addresses alone -/
theorem Rp.heap (r : Rp c H0 Fr H σ env as) {H' : Hp} (h : Same H H') : Rp c H0 Fr H' σ env as := by
  refine ⟨r.len, fun b o e => h b o (r.sub b o e), fun b o e => ⟨h b o (r.fr b o e).1, (r.fr b o e).2⟩, fun i o e => ?_, r.off, r.sep, r.nd, r.emp, r.tab.re (Same.refl _) (fun p q => let ⟨ps, e, _⟩ := r.tab.at_ p q; (h _ _ e).trans e.symm) r.tab.n0 r.tab.nF r.tab.na⟩
  obtain ⟨v, h1, h2⟩ := r.own i o e
  exact ⟨v, h1, OwnR.mono (fun _ _ z => z) o v _ (fun a ha => by
    obtain ⟨x, hx⟩ := r.here ha
    rw [hx, h a x hx]) h2⟩
/-- a thing that no name holds yet: v stands for o -/
def Rp1 (c : Cn) (H0 Fr H : Hp) (σ : St) (env : Env) (v : V) (o : O) : Prop :=
  ∃ bs as, OwnR c H0 H o v bs ∧ bs.Nodup ∧ (∀ a ∈ bs, H0 a = none ∧ Fr a = none) ∧ Rp c H0 (addF Fr H bs) H σ env as
theorem addF_nil {Fr H : Hp} : addF Fr H [] = Fr := funext fun b => addF_out (by simp)
theorem Rp.sh1 (r : Rp c H0 Fr H σ env as) {d : D} {v : V} (h : Dat c H0 d v) : Rp1 c H0 Fr H σ env v (.sh d) :=
  ⟨[], as, ⟨rfl, h⟩, List.nodup_nil, by simp, by rw [addF_nil]; exact r⟩
/-- a frame that says less -/
theorem Rp.less (r : Rp c H0 Fr H σ env as) {Fr' : Hp} (h : ∀ b o, Fr' b = some o → Fr b = some o) : Rp c H0 Fr' H σ env as :=
  ⟨r.len, r.sub, fun b o e => r.fr b o (h b o e), r.own, fun i a ha => ⟨(r.off i a ha).1, by
    cases q : Fr' a with
    | none => rfl
    | some o =>
      have := h a o q
      rw [(r.off i a ha).2] at this
      cases this⟩, r.sep, r.nd, r.emp, r.tab.re (Same.refl _) (fun _ _ => rfl) r.tab.n0 (fun p q => by
    cases z : Fr' p.1 with
    | none => rfl
    | some o =>
      have := h _ _ z
      rw [r.tab.nF p q] at this
      cases this) r.tab.na⟩
theorem Rp1.rp {v : V} {o : O} (r : Rp1 c H0 Fr H σ env v o) : ∃ as, Rp c H0 Fr H σ env as := by
  obtain ⟨bs, as, h1, h2, h3, h4⟩ := r
  refine ⟨as, h4.less fun b x e => ?_⟩
  rw [addF_out fun q => by rw [(h3 b q).2] at e; cases e]
  exact e
/-- it is kept as shared data -/
theorem Rp1.freeze {v : V} {o : O} (r : Rp1 c H0 Fr H σ env v o) : ∃ H1 as, Same H0 H1 ∧ Rp c H1 Fr H σ env as ∧ Dat c H1 o.frz v := by
  obtain ⟨bs, as, h1, h2, h3, h4⟩ := r
  have s1 : Same H0 (addF H0 H bs) := same_addF' fun a ha => (h3 a ha).1
  refine ⟨addF H0 H bs, as, s1, ⟨h4.len, ?_, ?_, ?_, ?_, h4.sep, h4.nd, h4.emp, h4.tab.re s1 (fun _ _ => rfl) (fun p q => ?_) (fun p q => ?_) h4.tab.na⟩, OwnR.dat o v _ h1 s1 fun a ha => addF_in ha⟩
  · intro b x hb
    by_cases q : b ∈ bs
    · rw [addF_in q] at hb
      exact hb
    · rw [addF_out q] at hb
      exact h4.sub b x hb
  · intro b x hb
    have q : b ∉ bs := fun q => by rw [(h3 b q).2] at hb; cases hb
    rw [addF_out q]
    exact h4.fr b x (by rw [addF_out q]; exact hb)
  · intro i o' e
    obtain ⟨w, g1, g2⟩ := h4.own i o' e
    exact ⟨w, g1, OwnR.mono s1 o' w _ (fun _ _ => rfl) g2⟩
  · intro i a ha
    have q : a ∉ bs := fun q => by
      have z := (h4.off i a ha).2
      rw [addF_in q] at z
      obtain ⟨x, hx⟩ := h4.here ha
      rw [hx] at z
      cases z
    refine ⟨by rw [addF_out q]; exact (h4.off i a ha).1, ?_⟩
    have z := (h4.off i a ha).2
    rw [addF_out q] at z
    exact z
  · have z : p.1 ∉ bs := fun z => by
      have nF := h4.tab.nF p q
      rw [addF_in z] at nF
      obtain ⟨x, hx⟩ := OwnR.here o v bs h1 _ z
      rw [hx] at nF
      cases nF
    rw [addF_out z]
    exact h4.tab.n0 p q
  · have z : p.1 ∉ bs := fun z => by
      have nF := h4.tab.nF p q
      rw [addF_in z] at nF
      obtain ⟨x, hx⟩ := OwnR.here o v bs h1 _ z
      rw [hx] at nF
      cases nF
    have nF := h4.tab.nF p q
    rw [addF_out z] at nF
    exact nF
/-- a name gets it -/
theorem Rp1.set {v : V} {o : O} {i : Nat} (r : Rp1 c H0 Fr H σ env v o) : ∃ as, Rp c H0 Fr H (σ.set i (some v)) (env.set i (some o)) as := by
  obtain ⟨bs, as, h1, h2, h3, h4⟩ := r
  have out : ∀ {j a}, a ∈ as j → a ∉ bs := fun {j a} ha q => by
    have z := (h4.off j a ha).2
    rw [addF_in q] at z
    obtain ⟨x, hx⟩ := h4.here ha
    rw [hx] at z
    cases z
  by_cases hl : i < env.length
  · have tz : ∀ p ∈ c.tabs, p.1 ∉ bs ∧ Fr p.1 = none := fun p q => by
      have z : p.1 ∉ bs := fun z => by
        have nF := h4.tab.nF p q
        rw [addF_in z] at nF
        obtain ⟨x, hx⟩ := OwnR.here o v bs h1 _ z
        rw [hx] at nF
        cases nF
      have nF := h4.tab.nF p q
      rw [addF_out z] at nF
      exact ⟨z, nF⟩
    refine ⟨setA as i bs, by simpa using h4.len, h4.sub, ?_, ?_, ?_, ?_, ?_, ?_, h4.tab.re (Same.refl _) (fun _ _ => rfl) h4.tab.n0 (fun p q => (tz p q).2) fun p q j z => ?_⟩
    · intro b x e
      have q : b ∉ bs := fun q => by rw [(h3 b q).2] at e; cases e
      exact h4.fr b x (by rw [addF_out q]; exact e)
    · intro j o' e
      rw [slot_set hl] at e
      by_cases q : j = i
      · rw [if_pos q] at e
        cases e
        subst q
        exact ⟨v, List.getElem?_set_self (by rw [← h4.len]; exact hl), by rw [setA_same]; exact h1⟩
      · rw [if_neg q] at e
        obtain ⟨w, g1, g2⟩ := h4.own j o' e
        exact ⟨w, by rw [List.getElem?_set_ne (Ne.symm q)]; exact g1, by rw [setA_ne q]; exact g2⟩
    · intro j a ha
      by_cases q : j = i
      · subst q
        rw [setA_same] at ha
        exact h3 a ha
      · rw [setA_ne q] at ha
        have z := (h4.off j a ha).2
        rw [addF_out (out ha)] at z
        exact ⟨(h4.off j a ha).1, z⟩
    · intro j k a ha hk
      by_cases q : j = i
      · subst q
        rw [setA_same] at ha
        by_cases q2 : k = j
        · exact q2.symm
        · rw [setA_ne q2] at hk
          exact absurd ha (out hk)
      · rw [setA_ne q] at ha
        by_cases q2 : k = i
        · subst q2
          rw [setA_same] at hk
          exact absurd hk (out ha)
        · rw [setA_ne q2] at hk
          exact h4.sep j k a ha hk
    · intro j
      by_cases q : j = i
      · rw [q, setA_same]; exact h2
      · rw [setA_ne q]; exact h4.nd j
    · intro j e
      rw [slot_set hl] at e
      by_cases q : j = i
      · rw [if_pos q] at e
        cases e
      · rw [if_neg q] at e
        rw [setA_ne q]
        exact h4.emp j e
    · by_cases e : j = i
      · subst e
        rw [setA_same] at z
        exact (tz p q).1 z
      · rw [setA_ne e] at z
        exact h4.tab.na p q j z
  · obtain ⟨as2, h5⟩ := Rp1.rp ⟨bs, as, h1, h2, h3, h4⟩
    rw [slot_set_ge hl]
    refine ⟨as2, h5.other (by simp) fun j o' e => ?_⟩
    have hj := slot_lt e
    exact List.getElem?_set_ne fun q => hl (by omega)
/-- a new thing of one's own -/
theorem Rp.new (r : Rp c H0 Fr H σ env as) {p : Addr} {x : HO} {o : O} (hp : H p = none) (h : OwnR c H0 (upd H p x) o (.ref p) [p]) : Rp1 c H0 Fr (upd H p x) σ env (.ref p) o := by
  have h0 : H0 p = none := by
    cases q : H0 p with
    | none => rfl
    | some y =>
      rw [r.sub p y q] at hp
      cases hp
  have hF : Fr p = none := by
    cases q : Fr p with
    | none => rfl
    | some y =>
      rw [(r.fr p y q).1] at hp
      cases hp
  have sH : Same H (upd H p x) := fun b o e => by rw [upd_ne (ne_of_none e hp)]; exact e
  refine ⟨[p], as, h, by simp, fun a ha => by rw [List.mem_singleton.mp ha]; exact ⟨h0, hF⟩, ?_⟩
  have r2 := r.heap sH
  refine ⟨r2.len, r2.sub, ?_, r2.own, ?_, r2.sep, r2.nd, r2.emp, r2.tab.re (Same.refl _) (fun _ _ => rfl) r2.tab.n0 (fun a q => by rw [addF_out fun z => r.tab.ne q hp (List.mem_singleton.mp z)]; exact r2.tab.nF a q) r2.tab.na⟩
  · intro b o e
    by_cases q : b ∈ [p]
    · rw [addF_in q] at e
      rw [List.mem_singleton.mp q] at e ⊢
      exact ⟨e, h0⟩
    · rw [addF_out q] at e
      exact r2.fr b o e
  · intro i a ha
    obtain ⟨y, hy⟩ := r.here ha
    have q : a ∉ [p] := fun q => by
      rw [List.mem_singleton.mp q, hp] at hy
      cases hy
    rw [addF_out q]
    exact r2.off i a ha
/-- a name's own flat thing is changed -/
theorem Rp.mut (r : Rp c H0 Fr H σ env as) {i : Nat} {o o' : O} {a : Addr} {x : HO} (e : slot env i = some o) (ha : as i = [a]) (h : ∀ v, σ[i]? = some (some v) → OwnR c H0 H o v [a] → OwnR c H0 (upd H a x) o' v [a]) :
    Rp c H0 Fr (upd H a x) σ (env.set i (some o')) as := by
  have hl := slot_lt e
  have hm : a ∈ as i := by rw [ha]; simp
  refine ⟨by simpa using r.len, ?_, ?_, ?_, r.off, r.sep, r.nd, ?_, r.tab.re (Same.refl _) (fun p q => upd_ne (r.tab.ne_as q hm)) r.tab.n0 r.tab.nF r.tab.na⟩
  · intro b y hb
    rw [upd_ne (ne_of_none hb (r.off i a hm).1)]
    exact r.sub b y hb
  · intro b y hb
    rw [upd_ne (ne_of_none hb (r.off i a hm).2)]
    exact r.fr b y hb
  · intro j o2 ej
    rw [slot_set hl] at ej
    by_cases q : j = i
    · rw [if_pos q] at ej
      cases ej
      subst q
      obtain ⟨v, g1, g2⟩ := r.own j o e
      rw [ha] at g2
      exact ⟨v, g1, by rw [ha]; exact h v g1 g2⟩
    · rw [if_neg q] at ej
      obtain ⟨v, g1, g2⟩ := r.own j o2 ej
      exact ⟨v, g1, OwnR.mono (fun _ _ z => z) o2 v _ (fun b hb => upd_ne fun z => q (r.sep j i b hb (z ▸ hm))) g2⟩
  · intro j ej
    rw [slot_set hl] at ej
    by_cases q : j = i
    · rw [if_pos q] at ej
      cases ej
    · rw [if_neg q] at ej
      exact r.emp j ej
end
end F
end

section
set_option Elab.async false
set_option linter.all false
set_option maxRecDepth 100000
/-! F layer, part C: expressions and tests. -/
namespace F
open PySem PySem.Spec PyProof.Rows L2
/-- what is laid of classes: their addresses, their fields, an exception's field -/
structure Tb where
  cls : Nat → Addr
  fld : Nat → List Str
  xf : Nat → Str
  tabs : List (Addr × Option Str)
  ex : Nat → D → V → Hp → Prop
  exM : ∀ (k : Nat) (d : D) (v : V) (H H' : Hp), Same H H' → ex k d v H → ex k d v H'
  exR : ∀ (k : Nat) (d : D) (v : V) (H : Hp), ex k d v H → ∃ a, v = .ref a
abbrev cn (X : Cx) (t : Tb) : Cn := ⟨X.K, t.cls, t.fld, t.tabs, t.ex, t.exM, t.exR⟩
/-- how an exception of the class k with the payload p lies -/
def ExA (t : Tb) (c : Cn) (H0 H : Hp) (k : Nat) (p : D) (cls : Value) (dx : Option Addr) : Prop :=
  cls = .ref (t.cls k) ∧ ((∃ d v, dx = some d ∧ H0 d = some (.xd [(t.xf k, v)]) ∧ Dat c H0 p v) ∨ (dx = none ∧ p = .non ∧ t.xf k = Str.empty))
/-- an answer lies so -/
def RpR (c : Cn) (H0 Fr H : Hp) (σ : St) (e : Env) (v : V) : R → Prop
  | .d x => (∃ as, Rp c H0 Fr H σ e as) ∧ Dat c H0 x v
  | .sl i => (∃ as, Rp c H0 Fr H σ e as) ∧ σ[i]? = some (some v)
  | .ow o => Rp1 c H0 Fr H σ e v o
/-- the top of a thing stands in H, its parts are shared -/
def Dat1 (c : Cn) (H0 H : Hp) : D → V → Prop
  | .tup l, v => l.length ≤ lim ∧ ∃ a vs, v = .ref a ∧ SqT c.K H a vs ∧ Dats c H0 l vs
  | .lst l, v => l.length ≤ lim ∧ ∃ a vs, v = .ref a ∧ SqL c.K H a vs ∧ Dats c H0 l vs
  | .dct l, v => l.length ≤ lim ∧ ∃ a kvs, v = .ref a ∧ Rd H a (.dK kvs) ∧ DatK c H0 l kvs
  | .obj k l, v => ∃ a dx fs, v = .ref a ∧ H a = some (.ins (c.cls k) dx fs) ∧ fs.map (·.1) = (c.fld k).take l.length ∧ Dats c H0 l (fs.map (·.2))
  | d, v => Dat c H0 d v
theorem Dat.d1 {c : Cn} {H0 H : Hp} (s : Same H0 H) : ∀ {d : D} {v : V}, Dat c H0 d v → Dat1 c H0 H d v
  | .non, _, h => h
  | .bl _, _, h => h
  | .int _, _, h => h
  | .str _, _, h => h
  | .tup l, _, ⟨hl, a, vs, h1, h2, h3⟩ => ⟨hl, a, vs, h1, SqT.same s h2, h3⟩
  | .lst l, _, ⟨hl, a, vs, h1, h2, h3⟩ => ⟨hl, a, vs, h1, SqL.same s h2, h3⟩
  | .dct l, _, ⟨hl, a, kvs, h1, h2, h3⟩ => ⟨hl, a, kvs, h1, Rd.same s h2, h3⟩
  | .obj k l, _, ⟨a, dx, fs, h1, h2, h3, h4⟩ => ⟨a, dx, fs, h1, s _ _ h2, h3, h4⟩
  | .ex k d, _, h => h
theorem Dat1.dat {c : Cn} {H0 H : Hp} (s : Same H0 H) : ∀ {d : D} {v : V}, Dat1 c H0 H d v → Dat c H d v
  | .non, _, h => h
  | .bl _, _, h => h
  | .int _, _, h => h
  | .str _, _, h => h
  | .tup l, _, ⟨hl, a, vs, h1, h2, h3⟩ => ⟨hl, a, vs, h1, h2, Dats.mono s _ _ h3⟩
  | .lst l, _, ⟨hl, a, vs, h1, h2, h3⟩ => ⟨hl, a, vs, h1, h2, Dats.mono s _ _ h3⟩
  | .dct l, _, ⟨hl, a, kvs, h1, h2, h3⟩ => ⟨hl, a, kvs, h1, h2, DatK.mono s _ _ h3⟩
  | .obj k l, _, ⟨a, dx, fs, h1, h2, h3, h4⟩ => ⟨a, dx, fs, h1, h2, h3, Dats.mono s _ _ h4⟩
  | .ex k d, _, h => c.exM k d _ _ _ s h
theorem OwnR.d1 {c : Cn} {H0 H : Hp} (s : Same H0 H) {o : O} {v : V} {as : List Addr} {d : D} (h : OwnR c H0 H o v as) (e : o.pk = some d) : Dat1 c H0 H d v := by
  cases o with
  | sh x =>
    cases e
    exact Dat.d1 s h.2
  | fl l =>
    cases e
    obtain ⟨hl, a, vs, h1, h2, h3, h4⟩ := h
    exact ⟨hl, a, vs, h1, SqL.of h3, h4⟩
  | fd l =>
    cases e
    obtain ⟨hl, a, vs, h1, h2, h3, h4⟩ := h
    exact ⟨hl, a, vs, h1, .inl h3, h4⟩
  | fo k os => cases e
/-- an answer held while others are reckoned -/
def Kp (c : Cn) (H0 : Hp) (σ : St) (v : V) : R → Prop
  | .d x => Dat c H0 x v
  | .sl i => σ[i]? = some (some v)
  | .ow _ => False
section
variable {c : Cn} {H0 H1 Fr H : Hp} {σ : St} {e : Env} {v : V} {r : R}
theorem Kp.mono (s : Same H0 H1) (h : Kp c H0 σ v r) : Kp c H1 σ v r := by
  cases r with
  | d x => exact Dat.mono s _ _ h
  | sl i => exact h
  | ow o => exact h
theorem RpR.rp (h : RpR c H0 Fr H σ e v r) : ∃ as, Rp c H0 Fr H σ e as := by
  cases r with
  | d x => exact h.1
  | sl i => exact h.1
  | ow o => exact Rp1.rp h
theorem RpR.keep (h : RpR c H0 Fr H σ e v r) : ∃ H2 as, Same H0 H2 ∧ Rp c H2 Fr H σ e as ∧ Kp c H2 σ v (nrm r) := by
  cases r with
  | d x =>
    obtain ⟨⟨as, h1⟩, h2⟩ := h
    exact ⟨H0, as, Same.refl _, h1, h2⟩
  | sl i =>
    obtain ⟨⟨as, h1⟩, h2⟩ := h
    exact ⟨H0, as, Same.refl _, h1, h2⟩
  | ow o =>
    obtain ⟨H2, as, s, h1, h2⟩ := Rp1.freeze h
    exact ⟨H2, as, s, h1, h2⟩
theorem Kp.peek {as : Nat → List Addr} (rp : Rp c H0 Fr H σ e as) (k : Kp c H0 σ v r) {d : D} (h : peek r e = some d) : Dat1 c H0 H d v := by
  cases r with
  | d x =>
    cases h
    exact Dat.d1 rp.sub k
  | sl i =>
    have h : (slot e i).bind O.pk = some d := h
    cases q : slot e i with
    | none =>
      rw [q] at h
      cases h
    | some o =>
      rw [q] at h
      obtain ⟨w, h1, h2⟩ := rp.own i o q
      have k : σ[i]? = some (some v) := k
      rw [h1] at k
      cases k
      exact OwnR.d1 rp.sub h2 h
  | ow o => exact k.elim
/-- an operand at the end -/
theorem RpR.peek (h : RpR c H0 Fr H σ e v r) {d : D} (hp : peek r e = some d) : ∃ H2 as, Same H0 H2 ∧ Rp c H2 Fr H σ e as ∧ Dat1 c H2 H d v := by
  cases r with
  | d x =>
    obtain ⟨⟨as, h1⟩, h2⟩ := h
    exact ⟨H0, as, Same.refl _, h1, Kp.peek (r := .d x) h1 h2 hp⟩
  | sl i =>
    obtain ⟨⟨as, h1⟩, h2⟩ := h
    exact ⟨H0, as, Same.refl _, h1, Kp.peek (r := .sl i) h1 h2 hp⟩
  | ow o =>
    obtain ⟨H2, as, s, h1, h2⟩ := Rp1.freeze h
    have hp : o.pk = some d := hp
    refine ⟨H2, as, s, h1, ?_⟩
    have : o.frz = d := by
      cases o <;> cases hp <;> rfl
    rw [← this]
    exact Dat.d1 h1.sub h2
/-- an answer is kept -/
theorem RpR.leak (h : RpR c H0 Fr H σ e v r) {d : D} {e' : Env} (hl : leak r e = .ok d e') : ∃ H2 as, Same H0 H2 ∧ Rp c H2 Fr H σ e' as ∧ Dat c H2 d v := by
  cases r with
  | d x =>
    cases hl
    obtain ⟨⟨as, h1⟩, h2⟩ := h
    exact ⟨H0, as, Same.refl _, h1, h2⟩
  | sl i =>
    obtain ⟨⟨as, h1⟩, h2⟩ := h
    have hl : (match slot e i with
      | some o => Rs.ok o.frz (e.set i (some (.sh o.frz)))
      | none => .bad) = .ok d e' := hl
    cases q : slot e i with
    | none =>
      rw [q] at hl
      cases hl
    | some o =>
      rw [q] at hl
      cases hl
      obtain ⟨H2, w, s, h3, h4, h5⟩ := h1.freeze q
      rw [h2] at h4
      cases h4
      exact ⟨H2, _, s, h3, h5⟩
  | ow o =>
    cases hl
    obtain ⟨H2, as, s, h1, h2⟩ := Rp1.freeze h
    exact ⟨H2, as, s, h1, h2⟩
theorem leak_ok {e' : Env} (h : RpR c H0 Fr H σ e v r) : (∃ d e1, leak r e = .ok d e1) ∨ leak r e = .bad := by
  cases r with
  | d x => exact .inl ⟨_, _, rfl⟩
  | sl i =>
    show (∃ d e1, (match slot e i with
      | some o => Rs.ok o.frz (e.set i (some (.sh o.frz)))
      | none => .bad) = .ok d e1) ∨ (match slot e i with
      | some o => Rs.ok o.frz (e.set i (some (.sh o.frz)))
      | none => .bad) = .bad
    cases slot e i with
    | none => exact .inr rfl
    | some o => exact .inl ⟨_, _, rfl⟩
  | ow o => exact .inl ⟨_, _, rfl⟩
end
/-! ### the readings -/
/-- what a run of a plain function must give: RR how its answer lies, Q what is wanted -/
def Po {α β : Type} (t : Tb) (c : Cn) (W : WX) (Fr : Hp) (σ : St) (H0 : Hp) (RR : Hp → Hp → Env → β → α → Prop) (Q : β → Hp → Prop) : Rs α → Prop
  | .ok a e => ∀ b H1 H', Same H0 H1 → RR H1 H' e b a → Q b H'
  | .ex k p e => ∀ H1 H' as cls dx, Same H0 H1 → Rp c H1 Fr H' σ e as → ExA t c H1 H' k p cls dx → W cls dx σ H'
  | .bad => False
def tG {α β : Type} (t : Tb) (c : Cn) (W : WX) (RR : Hp → St → Hp → Hp → Env → β → α → Prop) (m : M α) : St → Hp → (β → Hp → Prop) → Prop := fun σ H Q =>
  ∃ (e : Env) (H0 Fr : Hp) (as : Nat → List Addr), Rp c H0 Fr H σ e as ∧ Po t c W Fr σ H0 (RR Fr σ) Q (m e)
def rrR (c : Cn) : Hp → St → Hp → Hp → Env → V → R → Prop := fun Fr σ H1 H' e v r => RpR c H1 Fr H' σ e v r
def rrB (c : Cn) : Hp → St → Hp → Hp → Env → Bool → Bool → Prop := fun Fr σ H1 H' e b a => b = a ∧ ∃ as, Rp c H1 Fr H' σ e as
def Kps (c : Cn) (H0 : Hp) (σ : St) : List V → List R → Prop
  | [], rs => rs = []
  | v :: vs, rs => ∃ r qs, rs = r :: qs ∧ Kp c H0 σ v r ∧ Kps c H0 σ vs qs
def rrRs (c : Cn) : Hp → St → Hp → Hp → Env → List V → List R → Prop := fun Fr σ H1 H' e vs rs => (∃ as, Rp c H1 Fr H' σ e as) ∧ Kps c H1 σ vs rs
def rrDs (c : Cn) : Hp → St → Hp → Hp → Env → List V → List D → Prop := fun Fr σ H1 H' e vs ds => (∃ as, Rp c H1 Fr H' σ e as) ∧ Dats c H1 ds vs
abbrev tI (X : Cx) (t : Tb) (W : WX) (m : M R) : TE := tG t (cn X t) W (rrR (cn X t)) m
abbrev SE (X : Cx) (t : Tb) (W : WX) (e : Expr) (m : M R) : Prop := PE X e (tI X t W m)
abbrev SB (X : Cx) (t : Tb) (W : WX) (e : Expr) (m : M Bool) : Prop := PT X e (tG t (cn X t) W (rrB (cn X t)) m)
abbrev SW (X : Cx) (t : Tb) (W : WX) (e : Expr) (m : M Bool) : Prop := PW X e (tG t (cn X t) W (rrB (cn X t)) m)
abbrev SA (X : Cx) (t : Tb) (W : WX) (es : List Expr) (m : M (List R)) : Prop := PA X es (tG t (cn X t) W (rrRs (cn X t)) m)
abbrev SD (X : Cx) (t : Tb) (W : WX) (es : List Expr) (m : M (List D)) : Prop := PA X es (tG t (cn X t) W (rrDs (cn X t)) m)
theorem PE.imp {X : Cx} {e : Expr} {u u' : TE} (h : PE X e u) (k : ∀ σ H Q, u' σ H Q → u σ H Q) : PE X e u' := ⟨fun pins s σ H Q I q => h.run pins s σ H Q I (k _ _ _ q)⟩
theorem PT.imp {X : Cx} {e : Expr} {u u' : TT} (h : PT X e u) (k : ∀ σ H Q, u' σ H Q → u σ H Q) : PT X e u' := ⟨fun pins s σ H Q I q => h.run pins s σ H Q I (k _ _ _ q)⟩
theorem PW.imp {X : Cx} {e : Expr} {u u' : TT} (h : PW X e u) (k : ∀ σ H Q, u' σ H Q → u σ H Q) : PW X e u' := ⟨fun wh pins s σ H Q I q => h.run wh pins s σ H Q I (k _ _ _ q)⟩
theorem PA.imp {X : Cx} {es : List Expr} {u u' : TA} (h : PA X es u) (k : ∀ σ H Q, u' σ H Q → u σ H Q) : PA X es u' := ⟨fun pos pins s σ H Q I q => h.run pos pins s σ H Q I (k _ _ _ q)⟩
section
variable {α β γ δ : Type} {t : Tb} {c : Cn} {W : WX}
theorem Po.mono {RR : Hp → Hp → Env → β → α → Prop} {Q : β → Hp → Prop} {Fr H0 H1 : Hp} {σ : St} {x : Rs α} (s : Same H0 H1) (h : Po t c W Fr σ H0 RR Q x) : Po t c W Fr σ H1 RR Q x := by
  cases x with
  | ok a e => exact fun b H2 H' s2 rr => h b H2 H' (s.trans s2) rr
  | ex k p e => exact fun H2 H' as cls dx s2 rp xa => h H2 H' as cls dx (s.trans s2) rp xa
  | bad => exact h
/-- one run behind another -/
theorem Po.bind {RR : Hp → Hp → Env → β → α → Prop} {RS : Hp → Hp → Env → δ → γ → Prop} {x : Rs α} {f : α → Env → Rs γ} {σ : St} {Fr H0 : Hp} {Q : δ → Hp → Prop} {k : β → Hp → Prop}
    (po : Po t c W Fr σ H0 RS Q (andThen x f)) (hk : ∀ (a : α) (e : Env) (b : β) (H1 H' : Hp), Same H0 H1 → RR H1 H' e b a → Po t c W Fr σ H1 RS Q (f a e) → k b H') : Po t c W Fr σ H0 RR k x := by
  cases x with
  | ok a e1 => exact fun b H1 H' s rr => hk a e1 b H1 H' s rr (Po.mono s po)
  | ex k' p e1 => exact po
  | bad => exact po
/-- an option that must be there -/
theorem Po.ofO {RR : Hp → Hp → Env → β → α → Prop} {Q : β → Hp → Prop} {Fr H0 : Hp} {σ : St} {x : Option γ} {f : γ → Rs α} (h : Po t c W Fr σ H0 RR Q (ofO x f)) : ∃ a, x = some a ∧ Po t c W Fr σ H0 RR Q (f a) := by
  cases x with
  | none => exact h.elim
  | some a => exact ⟨a, rfl, h⟩
/-- the answer is there -/
theorem Po.ret {RR : Hp → Hp → Env → β → α → Prop} {Q : β → Hp → Prop} {Fr H0 H1 H' : Hp} {σ : St} {a : α} {e : Env} {b : β} (h : Po t c W Fr σ H0 RR Q (.ok a e)) (s : Same H0 H1) (rr : RR H1 H' e b a) : Q b H' := h b H1 H' s rr
theorem Po.tG {RR : Hp → St → Hp → Hp → Env → β → α → Prop} {Q : β → Hp → Prop} {Fr H0 H1 H : Hp} {σ : St} {m : M α} {e : Env} {as : Nat → List Addr} (h : Po t c W Fr σ H0 (RR Fr σ) Q (m e)) (s : Same H0 H1) (rp : Rp c H1 Fr H σ e as) : tG t c W RR m σ H Q :=
  ⟨e, H1, Fr, as, rp, h.mono s⟩
end
/-! ### names and constants -/
section
variable {X : Cx} {t : Tb} {W : WX}
theorem se_var {x : Str} {pos : Pos} {i : Nat} (h : PE X (.Name x pos) (tVar i)) : SE X t W (.Name x pos) (mVar i) := by
  refine PE.imp h fun σ H Q ⟨e, H0, Fr, as, rp, po⟩ => ?_
  have po : Po t (cn X t) W Fr σ H0 (rrR (cn X t) Fr σ) Q (match slot e i with
    | some _ => .ok (.sl i) e
    | none => .bad) := po
  cases q : slot e i with
  | none =>
    rw [q] at po
    exact po.elim
  | some o =>
    rw [q] at po
    obtain ⟨v, h1, h2⟩ := rp.own i o q
    exact ⟨v, h1, po v H0 H (Same.refl _) ⟨⟨as, rp⟩, h1⟩⟩
theorem se_k {e : Expr} {v : V} {d : D} (h : PE X e (tC v)) (hd : ∀ H, Dat (cn X t) H d v) : SE X t W e (mC d) := by
  refine PE.imp h fun σ H Q ⟨e, H0, Fr, as, rp, po⟩ => ?_
  exact po v H0 H (Same.refl _) ⟨⟨as, rp⟩, hd H0⟩
theorem se_int {i : Int} {j pos} : SE X t W (.Constant (.int i) j pos) (mC (.int i)) := se_k pe_int fun _ => rfl
theorem se_bl {b : Bool} {j pos} : SE X t W (.Constant (.bool b) j pos) (mC (.bl b)) := se_k pe_bl fun _ => rfl
theorem se_non {j pos} : SE X t W (.Constant .none j pos) (mC .non) := se_k pe_non fun _ => rfl
theorem se_str {x : Str} {l : List Nat} {j pos} (h : x = sS l := by decide +kernel) (hl : l.length ≤ lim := by decide) : SE X t W (.Constant (.str x) j pos) (mC (.str l)) := se_k pe_str fun _ => ⟨by rw [h], hl⟩
theorem se_gint {x : Str} {i : Int} {pos : Pos} (hg : Gl X x) (hm : ∃ u, X.mg x = some (.int i u)) (hd : (x == ("__debug__" : Str)) = false := by decide) : SE X t W (.Name x pos) (mC (.int i)) := by
  obtain ⟨u, hm⟩ := hm
  exact se_k (pe_glob (v := .int i) hg hm ⟨u, rfl⟩ hd) fun _ => rfl
theorem se_gstr {x : Str} {l : List Nat} {pos : Pos} (hg : Gl X x) (hm : ∃ u, X.mg x = some (.str (sS l) u)) (hl : l.length ≤ lim := by decide) (hd : (x == ("__debug__" : Str)) = false := by decide) : SE X t W (.Name x pos) (mC (.str l)) := by
  obtain ⟨u, hm⟩ := hm
  exact se_k (pe_glob (v := .str (sS l)) hg hm ⟨u, rfl⟩ hd) fun _ => ⟨rfl, hl⟩
theorem se_gref {x : Str} {a : Addr} {d : D} {pos : Pos} (hg : Gl X x) (hm : X.mg x = some (.ref a)) (hd2 : ∀ H, Dat (cn X t) H d (.ref a)) (hd : (x == ("__debug__" : Str)) = false := by decide) : SE X t W (.Name x pos) (mC d) :=
  se_k (pe_glob (v := .ref a) hg hm rfl hd) hd2
end
/-! ### operations by values -/
/-- what an operation's answer may be: shared data as it stands, or a new object -/
def Out (c : Cn) (H0 H : Hp) (d : D) (Q : VK) : Prop := (∀ z, Dat c H0 d z → Q z H) ∧ ∀ p o, H p = none → Dat c (upd H0 p o) d (.ref p) → Q (.ref p) (upd H p o)
def VOp1 (c : Cn) (r : V → Hp → VK → Prop) (f : D → Option D) : Prop := ∀ (H0 H : Hp) (x : V) (dx dz : D) (Q : VK), Same H0 H → f dx = some dz → Dat1 c H0 H dx x → Out c H0 H dz Q → r x H Q
def VOp2 (c : Cn) (r : R2) (f : D → D → Option D) : Prop := ∀ (H0 H : Hp) (x y : V) (dx dy dz : D) (Q : VK), Same H0 H → f dx dy = some dz → Dat1 c H0 H dx x → Dat1 c H0 H dy y → Out c H0 H dz Q → r x y H Q
/-- a new list -/
def NewL (c : Cn) (H0 H : Hp) (l : List D) (Q : VK) : Prop := ∀ p vs, H p = none → l.length ≤ lim → Dats c H0 l vs → Q (.ref p) (upd H p (.lst vs))
def LOp2 (c : Cn) (r : R2) (f : D → D → Option (List D)) : Prop := ∀ (H0 H : Hp) (x y : V) (dx dy : D) (l : List D) (Q : VK), Same H0 H → f dx dy = some l → Dat1 c H0 H dx x → Dat1 c H0 H dy y → NewL c H0 H l Q → r x y H Q
section
variable {t : Tb} {c : Cn} {W : WX} {Fr H0 H : Hp} {σ : St} {e : Env} {as : Nat → List Addr} {Q : VK}
theorem Po.out {d : D} (h : Po t c W Fr σ H0 (rrR c Fr σ) Q (.ok (.d d) e)) (rp : Rp c H0 Fr H σ e as) : Out c H0 H d Q :=
  ⟨fun z hz => h z H0 H (Same.refl _) ⟨⟨as, rp⟩, hz⟩, fun p o hp hd => h (.ref p) _ _ (rp.alloc hp).1 ⟨⟨as, (rp.alloc hp).2⟩, hd⟩⟩
theorem Po.newL {l : List D} (h : Po t c W Fr σ H0 (rrR c Fr σ) Q (.ok (.ow (.fl l)) e)) (rp : Rp c H0 Fr H σ e as) : NewL c H0 H l Q :=
  fun p vs hp hl hd => h (.ref p) H0 _ (Same.refl _) (rp.new hp ⟨hl, p, vs, rfl, rfl, upd_same, hd⟩)
end
section
variable {X : Cx} {t : Tb} {W : WX} {a b : Expr} {ma mb : M R}
/-- the step behind one operand -/
theorem tI_op1 {r : V → Hp → VK → Prop} {f : D → Option D} (h : VOp1 (cn X t) r f) {σ : St} {H : Hp} {Q : VK} (q : tI X t W (mOp1 f ma) σ H Q) : tI X t W ma σ H fun x H1 => r x H1 Q := by
  obtain ⟨e, H0, Fr, as, rp, po⟩ := q
  refine ⟨e, H0, Fr, as, rp, po.bind fun ra e1 v H1 H' s rr po => ?_⟩
  obtain ⟨dx, e1, po⟩ := po.ofO
  obtain ⟨dz, e2, po⟩ := po.ofO
  obtain ⟨H2, as, s2, rp, hd⟩ := RpR.peek rr e1
  exact h H2 H' v dx dz Q rp.sub e2 hd ((po.mono s2).out rp)
theorem tI_op2 {r : R2} {f : D → D → Option D} (h : VOp2 (cn X t) r f) {σ : St} {H : Hp} {Q : VK} (q : tI X t W (mOp2 f ma mb) σ H Q) : tOp r (tI X t W ma) (tI X t W mb) σ H Q := by
  obtain ⟨e, H0, Fr, as, rp, po⟩ := q
  refine ⟨e, H0, Fr, as, rp, po.bind fun ra e1 v H1 H' s rr po => ?_⟩
  obtain ⟨H2, as, s2, rp, kp⟩ := RpR.keep rr
  refine ⟨e1, H2, Fr, as, rp, (po.mono s2).bind fun rb e2 w H3 H'' s3 rr2 po => ?_⟩
  obtain ⟨dx, q1, po⟩ := po.ofO
  obtain ⟨dy, q2, po⟩ := po.ofO
  obtain ⟨dz, q3, po⟩ := po.ofO
  obtain ⟨H4, as, s4, rp, hd⟩ := RpR.peek rr2 q2
  exact h H4 H'' v w dx dy dz Q rp.sub q3 ((kp.mono (s3.trans s4)).peek rp q1) hd ((po.mono s4).out rp)
theorem tI_ol2 {r : R2} {f : D → D → Option (List D)} (h : LOp2 (cn X t) r f) {σ : St} {H : Hp} {Q : VK} (q : tI X t W (mOl2 f ma mb) σ H Q) : tOp r (tI X t W ma) (tI X t W mb) σ H Q := by
  obtain ⟨e, H0, Fr, as, rp, po⟩ := q
  refine ⟨e, H0, Fr, as, rp, po.bind fun ra e1 v H1 H' s rr po => ?_⟩
  obtain ⟨H2, as, s2, rp, kp⟩ := RpR.keep rr
  refine ⟨e1, H2, Fr, as, rp, (po.mono s2).bind fun rb e2 w H3 H'' s3 rr2 po => ?_⟩
  obtain ⟨dx, q1, po⟩ := po.ofO
  obtain ⟨dy, q2, po⟩ := po.ofO
  obtain ⟨dz, q3, po⟩ := po.ofO
  obtain ⟨H4, as, s4, rp, hd⟩ := RpR.peek rr2 q2
  exact h H4 H'' v w dx dy dz Q rp.sub q3 ((kp.mono (s3.trans s4)).peek rp q1) hd ((po.mono s4).newL rp)
variable {pos : Pos}
theorem se_un {op : UnaryOp} {r : V → Hp → VK → Prop} {f : D → Option D} (ho : UnR X (unaryOp op) r) (h : VOp1 (cn X t) r f) (ha : SE X t W a ma) : SE X t W (.UnaryOp op a pos) (mOp1 f ma) := PE.imp (pe_un ho ha) fun _ _ _ q => tI_op1 h q
theorem se_op {op : Operator} {r : R2} {f : D → D → Option D} (ho : OpR X (binaryOp op) r) (h : VOp2 (cn X t) r f) (ha : SE X t W a ma) (hb : SE X t W b mb) : SE X t W (.BinOp a op b pos) (mOp2 f ma mb) := PE.imp (pe_op ho ha hb) fun _ _ _ q => tI_op2 h q
theorem se_opL {op : Operator} {r : R2} {f : D → D → Option (List D)} (ho : OpR X (binaryOp op) r) (h : LOp2 (cn X t) r f) (ha : SE X t W a ma) (hb : SE X t W b mb) : SE X t W (.BinOp a op b pos) (mOl2 f ma mb) := PE.imp (pe_op ho ha hb) fun _ _ _ q => tI_ol2 h q
theorem se_cmp {op : CmpOp} {r : R2} {f : D → D → Option D} (ho : OpR X (compareOp op) r) (h : VOp2 (cn X t) r f) (ha : SE X t W a ma) (hb : SE X t W b mb) (hm : behindInMarks op b = false) : SE X t W (.Compare a [op] [b] pos) (mOp2 f ma mb) :=
  PE.imp (pe_cmpR ho ha hb hm) fun _ _ _ q => tI_op2 h q
theorem se_ix {r : R2} {f : D → D → Option D} (hr : IxR X r) (h : VOp2 (cn X t) r f) (ha : SE X t W a ma) (hb : SE X t W b mb) (hs : PlainIx b) : SE X t W (.Subscript a b pos) (mOp2 f ma mb) := PE.imp (pe_ix hr ha hb hs) fun _ _ _ q => tI_op2 h q
/-! ### tests -/
/-- the value of a test is a bool -/
theorem tG_tb {σ : St} {H : Hp} {Q : Bool → Hp → Prop} (q : tG t (cn X t) W (rrB (cn X t)) (mTB ma) σ H Q) : tI X t W ma σ H fun x H' => ∃ k, x = .bl k ∧ Q k H' := by
  obtain ⟨e, H0, Fr, as, rp, po⟩ := q
  refine ⟨e, H0, Fr, as, rp, po.bind fun ra e1 v H1 H' s rr po => ?_⟩
  cases q : peek ra e1 with
  | none =>
    rw [q] at po
    exact po.elim
  | some d =>
    rw [q] at po
    cases d with
    | bl b =>
      obtain ⟨H2, as, s2, rp, hd⟩ := RpR.peek rr q
      exact ⟨b, hd, (po.mono s2).ret (Same.refl _) ⟨rfl, as, rp⟩⟩
    | _ => exact po.elim
theorem sb_val (ha : SE X t W a ma) (he : ∀ whole, isTrue a X.env whole = (do let v ← whole; standAt a.pos; holding [v] (truthy v)) := by intro _; rfl) : SB X t W a (mTB ma) := PT.imp (pt_val ha he) fun _ _ _ q => tG_tb q
theorem sb_cmp {op : CmpOp} {r : R2} {f : D → D → Option D} (ho : OpR X (compareOp op) r) (h : VOp2 (cn X t) r f) (ha : SE X t W a ma) (hb : SE X t W b mb) (hm : behindInMarks op b = false) : SB X t W (.Compare a [op] [b] pos) (mTB (mOp2 f ma mb)) :=
  PT.imp (pt_cmpR ho ha hb hm) fun _ _ _ q => tI_op2 h (tG_tb q)
theorem tru_of {c : Cn} {H0 H : Hp} {d : D} {v : V} {k : Bool} (h : Dat1 c H0 H d v) (e : truD d = some k) : TruV c.K v H k := by
  cases d with
  | non =>
    cases h
    cases e
    rfl
  | bl b =>
    cases h
    cases e
    rfl
  | int i =>
    cases h
    cases e
    rfl
  | str x =>
    obtain ⟨rfl, hl⟩ := h
    cases e
    refine ⟨?_, ?_⟩
    · show (sS x).cps.size ≤ sizeLine
      simpa [sS, sizeLine_eq, lim] using hl
    · show _ = (((sS x).cps.size : Int) != 0)
      cases x <;> simp [sS] <;> omega
  | lst l =>
    obtain ⟨_, a, vs, rfl, h2, h3⟩ := h
    cases e
    refine .inl ⟨vs, h2, ?_⟩
    have := h3.len
    cases l <;> cases vs <;> simp at this <;> rfl
  | tup l =>
    obtain ⟨_, a, vs, rfl, h2, h3⟩ := h
    cases e
    refine .inr (.inl ⟨vs, h2, ?_⟩)
    have := h3.len
    cases l <;> cases vs <;> simp at this <;> rfl
  | _ => cases e
theorem sb_tru (ha : SE X t W a ma) (he : ∀ whole, isTrue a X.env whole = (do let v ← whole; standAt a.pos; holding [v] (truthy v)) := by intro _; rfl) : SB X t W a (mTru ma) := by
  refine PT.imp (pt_truth ha he) fun σ H Q ⟨e, H0, Fr, as, rp, po⟩ => ?_
  refine ⟨e, H0, Fr, as, rp, po.bind fun ra e1 v H1 H' s rr po => ?_⟩
  obtain ⟨d, q1, po⟩ := po.ofO
  obtain ⟨b, q2, po⟩ := po.ofO
  obtain ⟨H2, as, s2, rp, hd⟩ := RpR.peek rr q1
  exact ⟨b, tru_of hd q2, (po.mono s2).ret (Same.refl _) ⟨rfl, as, rp⟩⟩
variable {m1 m2 : M Bool} {rest : List Expr}
theorem sw_pt (h : SW X t W a m1) : SB X t W a m1 := h.pt
theorem sw_and1 (h : SB X t W a m1) : SW X t W (.BoolOp .And [a] pos) m1 := pw_and1 h
theorem sw_or1 (h : SB X t W a m1) : SW X t W (.BoolOp .Or [a] pos) m1 := pw_or1 h
theorem sw_and (h : SB X t W a m1) (h2 : SW X t W (.BoolOp .And (b :: rest) pos) m2) : SW X t W (.BoolOp .And (a :: b :: rest) pos) (mAnd m1 m2) := by
  refine PW.imp (pw_and h h2) fun σ H Q ⟨e, H0, Fr, as, rp, po⟩ => ?_
  refine ⟨e, H0, Fr, as, rp, po.bind fun x e1 k H1 H' s ⟨ek, as2, rp2⟩ po => ?_⟩
  subst ek
  cases k with
  | true => exact ⟨e1, H1, Fr, as2, rp2, po⟩
  | false => exact po.ret (Same.refl _) ⟨rfl, as2, rp2⟩
theorem sw_or (h : SB X t W a m1) (h2 : SW X t W (.BoolOp .Or (b :: rest) pos) m2) : SW X t W (.BoolOp .Or (a :: b :: rest) pos) (mOr m1 m2) := by
  refine PW.imp (pw_or h h2) fun σ H Q ⟨e, H0, Fr, as, rp, po⟩ => ?_
  refine ⟨e, H0, Fr, as, rp, po.bind fun x e1 k H1 H' s ⟨ek, as2, rp2⟩ po => ?_⟩
  subst ek
  cases k with
  | true => exact po.ret (Same.refl _) ⟨rfl, as2, rp2⟩
  | false => exact ⟨e1, H1, Fr, as2, rp2, po⟩
theorem sb_not (h : SB X t W a m1) : SB X t W (.UnaryOp .Not a pos) (mNot m1) := by
  refine PT.imp (pt_not h) fun σ H Q ⟨e, H0, Fr, as, rp, po⟩ => ?_
  refine ⟨e, H0, Fr, as, rp, po.bind fun x e1 k H1 H' s ⟨ek, as2, rp2⟩ po => ?_⟩
  subst ek
  exact po.ret (Same.refl _) ⟨rfl, as2, rp2⟩
theorem se_if {cnd : Expr} (h : SB X t W cnd m1) (ha : SE X t W a ma) (hb : SE X t W b mb) : SE X t W (.IfExp cnd a b pos) (mIf m1 ma mb) := by
  refine PE.imp (pe_ifExp h ha hb) fun σ H Q ⟨e, H0, Fr, as, rp, po⟩ => ?_
  refine ⟨e, H0, Fr, as, rp, po.bind fun x e1 k H1 H' s ⟨ek, as2, rp2⟩ po => ?_⟩
  subst ek
  cases k with
  | true => exact ⟨e1, H1, Fr, as2, rp2, po⟩
  | false => exact ⟨e1, H1, Fr, as2, rp2, po⟩
/-! ### and, or, not as values -/
theorem se_one {op : BoolOp} (h : SE X t W a ma) : SE X t W (.BoolOp op [a] pos) ma := pe_one h
theorem peek_bl {c : Cn} {ra : R} {e1 : Env} {γ δ : Type} {RS : Hp → Hp → Env → δ → γ → Prop} {Fr H0 : Hp} {σ : St} {Q : δ → Hp → Prop} {f : Bool → Rs γ}
    (po : Po t c W Fr σ H0 RS Q (match peek ra e1 with | some (.bl x) => f x | _ => .bad)) : ∃ b, peek ra e1 = some (.bl b) ∧ Po t c W Fr σ H0 RS Q (f b) := by
  cases q : peek ra e1 with
  | none =>
    rw [q] at po
    exact po.elim
  | some d =>
    rw [q] at po
    cases d with
    | bl b => exact ⟨b, rfl, po⟩
    | _ => exact po.elim
theorem se_and (ha : SE X t W a ma) (hb : SE X t W (.BoolOp .And (b :: rest) pos) mb) : SE X t W (.BoolOp .And (a :: b :: rest) pos) (mAndV ma mb) := by
  refine PE.imp (pe_and ha hb) fun σ H Q ⟨e, H0, Fr, as, rp, po⟩ => ?_
  refine ⟨e, H0, Fr, as, rp, po.bind fun ra e1 v H1 H' s rr po => ?_⟩
  obtain ⟨k, q1, po⟩ := peek_bl po
  obtain ⟨H2, as, s2, rp, hd⟩ := RpR.peek rr q1
  refine ⟨k, hd, ?_⟩
  cases k with
  | true => exact ⟨e1, H2, Fr, as, rp, po.mono s2⟩
  | false => exact (po.mono s2).ret (Same.refl _) ⟨⟨as, rp⟩, rfl⟩
/-! ### several in a row -/
variable {es : List Expr} {ms : List (M R)}
theorem sa_nil : SA X t W [] (mRs []) := by
  refine PA.imp pa_nil fun σ H Q ⟨e, H0, Fr, as, rp, po⟩ => ?_
  exact po [] H0 H (Same.refl _) ⟨⟨as, rp⟩, rfl⟩
theorem sa_cons (ha : SE X t W a ma) (hr : SA X t W es (mRs ms)) (hs : starEach (a :: es) X.env = (false, eval a X.env) :: starEach es X.env := by rfl) : SA X t W (a :: es) (mRs (ma :: ms)) := by
  refine PA.imp (pa_cons ha hr hs) fun σ H Q ⟨e, H0, Fr, as, rp, po⟩ => ?_
  refine ⟨e, H0, Fr, as, rp, Po.bind (f := fun r e1 => andThen (mRs ms e1) fun rs e2 => .ok (nrm r :: rs) e2) po fun ra e1 v H1 H' s rr po => ?_⟩
  obtain ⟨H2, as, s2, rp, kp⟩ := RpR.keep rr
  refine ⟨e1, H2, Fr, as, rp, (po.mono s2).bind fun rs e2 vs H3 H'' s3 ⟨rp3, ks⟩ po => ?_⟩
  exact po.ret (Same.refl _) ⟨rp3, _, _, rfl, kp.mono s3, ks⟩
theorem sd_nil : SD X t W [] (mLks []) := by
  refine PA.imp pa_nil fun σ H Q ⟨e, H0, Fr, as, rp, po⟩ => ?_
  exact po [] H0 H (Same.refl _) ⟨⟨as, rp⟩, rfl⟩
theorem Po.leak {c : Cn} {Fr H0 H : Hp} {σ : St} {ra : R} {e1 : Env} {v : V} {γ δ : Type} {RS : Hp → Hp → Env → δ → γ → Prop} {Q : δ → Hp → Prop} {f : D → Env → Rs γ}
    (po : Po t c W Fr σ H0 RS Q (andThen (leak ra e1) f)) (rr : RpR c H0 Fr H σ e1 v ra) : ∃ d e2 H2 as, leak ra e1 = .ok d e2 ∧ Same H0 H2 ∧ Rp c H2 Fr H σ e2 as ∧ Dat c H2 d v ∧ Po t c W Fr σ H2 RS Q (f d e2) := by
  rcases leak_ok (e' := e1) rr with ⟨d, e2, q⟩ | q
  · rw [q] at po
    obtain ⟨H2, as, s, rp, hd⟩ := RpR.leak rr q
    exact ⟨d, e2, H2, as, q, s, rp, hd, Po.mono s po⟩
  · rw [q] at po
    exact po.elim
theorem sd_cons (ha : SE X t W a ma) (hr : SD X t W es (mLks ms)) (hs : starEach (a :: es) X.env = (false, eval a X.env) :: starEach es X.env := by rfl) : SD X t W (a :: es) (mLks (ma :: ms)) := by
  refine PA.imp (pa_cons ha hr hs) fun σ H Q ⟨e, H0, Fr, as, rp, po⟩ => ?_
  refine ⟨e, H0, Fr, as, rp, Po.bind (f := fun r e1 => andThen (leak r e1) fun d e2 => andThen (mLks ms e2) fun ds e3 => .ok (d :: ds) e3) po fun ra e1 v H1 H' s rr po => ?_⟩
  obtain ⟨d, e2, H2, as, q, s2, rp, hd, po⟩ := po.leak rr
  refine ⟨e2, H2, Fr, as, rp, po.bind fun ds e3 vs H3 H'' s3 ⟨rp3, ks⟩ po => ?_⟩
  exact po.ret (Same.refl _) ⟨rp3, v, vs, rfl, Dat.mono s3 _ _ hd, ks⟩
theorem sizeLine_lim : sizeLine = lim := sizeLine_eq
theorem se_tup {x1} (h : SD X t W es (mLks ms)) : SE X t W (.Tuple es x1 pos) (mTup ms) := by
  refine PE.imp (pe_tup h) fun σ H Q ⟨e, H0, Fr, as, rp, po⟩ => ?_
  refine ⟨e, H0, Fr, as, rp, po.bind fun ds e1 vs H1 H' s ⟨⟨as, rp⟩, hd⟩ po => ?_⟩
  by_cases hl : ds.length ≤ lim
  · rw [if_pos hl] at po
    refine ⟨by rw [hd.len, sizeLine_lim]; exact hl, fun p hp => ?_⟩
    exact (po.out rp).2 p _ hp ⟨hl, p, vs, rfl, SqT.of upd_same, Dats.mono (rp.alloc (x := .tup vs) hp).1 _ _ hd⟩
  · rw [if_neg hl] at po
    exact po.elim
theorem se_lst (h : SD X t W es (mLks ms)) : SE X t W (.List es pos) (mLst ms) := by
  refine PE.imp (pe_lst h) fun σ H Q ⟨e, H0, Fr, as, rp, po⟩ => ?_
  refine ⟨e, H0, Fr, as, rp, po.bind fun ds e1 vs H1 H' s ⟨⟨as, rp⟩, hd⟩ po => ?_⟩
  by_cases hl : ds.length ≤ lim
  · rw [if_pos hl] at po
    exact ⟨by rw [hd.len, sizeLine_lim]; exact hl, fun p hp => po.newL rp p vs hp hl hd⟩
  · rw [if_neg hl] at po
    exact po.elim
end
end F
end

section
set_option Elab.async false
set_option linter.all false
set_option autoImplicit false
set_option maxRecDepth 100000
/-! F layer, part D: calls of defs. -/
namespace F
open PySem PySem.Spec PyProof.Rows L2
section
variable {c : Cn} {H0 Fr H : Hp} {σ τ : St} {e g : Env} {as : Nat → List Addr}
theorem slot_app_l {i : Nat} (h : i < e.length) : slot (e ++ g) i = slot e i := by
  unfold slot
  rw [List.getElem?_append_left h]
theorem slot_app_r {i : Nat} : slot (e ++ g) (e.length + i) = slot g i := by
  unfold slot
  rw [List.getElem?_append_right (Nat.le_add_right _ _), Nat.add_sub_cancel_left]
theorem slot_ge {i : Nat} (h : e.length ≤ i) : slot e i = none := by
  unfold slot
  rw [List.getElem?_eq_none h]
/-- one more slot, shared data -/
theorem Rp.snocSh (r : Rp c H0 Fr H σ e as) {d : D} {v : V} (h : Dat c H0 d v) : Rp c H0 Fr H (σ ++ [some v]) (e ++ [some (.sh d)]) as := by
  have hz : as e.length = [] := r.emp _ (slot_ge (Nat.le_refl _))
  refine ⟨by simp [r.len], r.sub, r.fr, fun i o q => ?_, r.off, r.sep, r.nd, fun i q => ?_, r.tab⟩
  · by_cases hi : i < e.length
    · rw [slot_app_l hi] at q
      obtain ⟨w, h1, h2⟩ := r.own i o q
      exact ⟨w, by rw [List.getElem?_append_left (by rw [← r.len]; exact hi)]; exact h1, h2⟩
    · have hl := slot_lt q
      have : i = e.length := by simp at hl; omega
      subst this
      have q : slot (e ++ [some (O.sh d)]) (e.length + 0) = some o := q
      rw [slot_app_r] at q
      cases q
      exact ⟨v, by rw [r.len]; simp, by rw [hz]; exact ⟨rfl, h⟩⟩
  · by_cases hi : i < e.length
    · rw [slot_app_l hi] at q
      exact r.emp i q
    · exact r.emp i (slot_ge (Nat.le_of_not_lt hi))
/-- the same things at other slots -/
theorem Rp.re (r : Rp c H0 Fr H σ e as) {σ' : St} {e' : Env} (hl : e'.length = σ'.length) (ρ : Nat → Nat) (h : ∀ i o, slot e' i = some o → slot e (ρ i) = some o ∧ σ'[i]? = σ[ρ i]?)
    (inj : ∀ i j o o', slot e' i = some o → slot e' j = some o' → ρ i = ρ j → i = j) : ∃ as', Rp c H0 Fr H σ' e' as' := by
  refine ⟨fun i => match slot e' i with | some _ => as (ρ i) | none => [], hl, r.sub, r.fr, fun i o q => ?_, fun i a ha => ?_, fun i j a ha hj => ?_, fun i => ?_, fun i q => ?_, r.tab.sub fun i a z => ?_⟩
  · obtain ⟨h1, h2⟩ := h i o q
    obtain ⟨v, h3, h4⟩ := r.own _ o h1
    exact ⟨v, by rw [h2]; exact h3, by simpa [q] using h4⟩
  · cases q : slot e' i with
    | none => simp [q] at ha
    | some o => exact r.off (ρ i) a (by simpa [q] using ha)
  · cases q : slot e' i with
    | none => simp [q] at ha
    | some o =>
      cases q2 : slot e' j with
      | none => simp [q2] at hj
      | some o2 => exact inj i j o o2 q q2 (r.sep _ _ a (by simpa [q] using ha) (by simpa [q2] using hj))
  · cases q : slot e' i with
    | none => simp
    | some o => simpa using r.nd (ρ i)
  · simp [q]
  · cases q : slot e' i with
    | none => simp [q] at z
    | some o => exact ⟨ρ i, by simpa [q] using z⟩
theorem get_app_l {α : Type} {l m : List α} {i : Nat} (h : i < l.length) : (l ++ m)[i]? = l[i]? := List.getElem?_append_left h
theorem get_app_r {α : Type} {l m : List α} {i : Nat} : (l ++ m)[l.length + i]? = m[i]? := by
  rw [List.getElem?_append_right (Nat.le_add_right _ _), Nat.add_sub_cancel_left]
/-- a name's thing goes to a further slot -/
theorem Rp.move (r : Rp c H0 Fr H (σ ++ τ) (e ++ g) as) (hl : e.length = σ.length) {i : Nat} {o : O} {v : V} (q : slot e i = some o) (hv : σ[i]? = some (some v)) :
    ∃ as', Rp c H0 Fr H (σ ++ (τ ++ [some v])) (e.set i none ++ (g ++ [some o])) as' := by
  have hi := slot_lt q
  have hg : g.length = τ.length := by
    have := r.len
    simp at this
    omega
  have key : ∀ j o', slot (e.set i none ++ (g ++ [some o])) j = some o' → (j < e.length ∧ j ≠ i ∧ slot e j = some o') ∨ (∃ k, j = e.length + k ∧ slot g k = some o') ∨ (j = e.length + g.length ∧ o' = o) := fun j o' z => by
    by_cases hj : j < e.length
    · rw [slot_app_l (by simpa using hj)] at z
      obtain ⟨z1, z2⟩ := slot_none z
      exact .inl ⟨hj, z1, z2⟩
    · obtain ⟨k, rfl⟩ : ∃ k, j = e.length + k := ⟨j - e.length, by omega⟩
      have z : slot (e.set i none ++ (g ++ [some o])) ((e.set i none).length + k) = some o' := by simpa using z
      rw [slot_app_r] at z
      by_cases hk : k < g.length
      · rw [slot_app_l hk] at z
        exact .inr (.inl ⟨k, rfl, z⟩)
      · obtain ⟨n, rfl⟩ : ∃ n, k = g.length + n := ⟨k - g.length, by omega⟩
        rw [slot_app_r] at z
        have hn := slot_lt z
        have : n = 0 := by simpa using hn
        subst this
        cases z
        exact .inr (.inr ⟨rfl, rfl⟩)
  refine r.re (by simp [hl, hg]) (fun j => if j = e.length + g.length then i else j) (fun j o' z => ?_) (fun j k o1 o2 z1 z2 he => ?_)
  · rcases key j o' z with ⟨h1, h2, h3⟩ | ⟨k, rfl, h3⟩ | ⟨rfl, rfl⟩
    · rw [if_neg (by omega), slot_app_l h1]
      exact ⟨h3, by rw [get_app_l (by omega), get_app_l (by omega)]⟩
    · have hk := slot_lt h3
      rw [if_neg (by omega), slot_app_r]
      refine ⟨h3, ?_⟩
      rw [hl, get_app_r, get_app_r, get_app_l (by omega)]
    · rw [if_pos rfl, slot_app_l hi]
      refine ⟨q, ?_⟩
      have z1 : (σ ++ (τ ++ [some v]))[σ.length + τ.length]? = some (some v) := by
        rw [get_app_r]
        simp
      have z2 : (σ ++ τ)[i]? = some (some v) := by
        rw [get_app_l (by omega)]
        exact hv
      rw [hl, hg, z1, z2]
  · rcases key j o1 z1 with ⟨h1, h2, h3⟩ | ⟨k1, rfl, h3⟩ | ⟨rfl, rfl⟩ <;> rcases key k o2 z2 with ⟨g1, g2, g3⟩ | ⟨k2, rfl, g3⟩ | ⟨rfl, rfl⟩
    · rw [if_neg (by omega), if_neg (by omega)] at he
      exact he
    · have := slot_lt g3
      rw [if_neg (by omega), if_neg (by omega)] at he
      exact he
    · rw [if_neg (by omega), if_pos rfl] at he
      exact absurd he h2
    · have := slot_lt h3
      rw [if_neg (by omega), if_neg (by omega)] at he
      exact he
    · have := slot_lt h3
      have := slot_lt g3
      rw [if_neg (by omega), if_neg (by omega)] at he
      exact he
    · have := slot_lt h3
      rw [if_neg (by omega), if_pos rfl] at he
      omega
    · rw [if_pos rfl, if_neg (by omega)] at he
      exact absurd he.symm g2
    · have := slot_lt g3
      rw [if_pos rfl, if_neg (by omega)] at he
      omega
    · rfl
/-- the first of the further slots goes to a name's place (what was there is forgotten) -/
theorem Rp.unhd {w : V} {o : Option O} (r : Rp c H0 Fr H (σ ++ some w :: τ) (e ++ o :: g) as) (hl : e.length = σ.length) {i : Nat} (hi : i < e.length) (hv : σ[i]? = some (some w)) :
    ∃ as', Rp c H0 Fr H (σ ++ τ) (e.set i o ++ g) as' := by
  have hg : g.length = τ.length := by
    have := r.len
    simp at this
    omega
  have key : ∀ j o', slot (e.set i o ++ g) j = some o' → (j < e.length ∧ j ≠ i ∧ slot e j = some o') ∨ (j = i ∧ o = some o') ∨ (∃ k, j = e.length + k ∧ slot g k = some o') := fun j o' z => by
    by_cases hj : j < e.length
    · rw [slot_app_l (by simpa using hj), slot_set hi] at z
      split at z
      · exact .inr (.inl ⟨by assumption, z⟩)
      · exact .inl ⟨hj, by assumption, z⟩
    · obtain ⟨k, rfl⟩ : ∃ k, j = e.length + k := ⟨j - e.length, by omega⟩
      have z : slot (e.set i o ++ g) ((e.set i o).length + k) = some o' := by simpa using z
      rw [slot_app_r] at z
      exact .inr (.inr ⟨k, rfl, z⟩)
  refine r.re (by simp [hl, hg]) (fun j => if j = i then e.length else if j < e.length then j else j + 1) (fun j o' z => ?_) (fun j k o1 o2 z1 z2 he => ?_)
  · rcases key j o' z with ⟨h1, h2, h3⟩ | ⟨rfl, rfl⟩ | ⟨k, rfl, h3⟩
    · rw [if_neg h2, if_pos h1, slot_app_l h1]
      exact ⟨h3, by rw [get_app_l (by omega), get_app_l (by omega)]⟩
    · rw [if_pos rfl]
      have z0 : slot (e ++ some o' :: g) (e.length + 0) = slot (some o' :: g) 0 := slot_app_r
      refine ⟨z0, ?_⟩
      rw [get_app_l (by omega), hv, hl]
      simp
    · have hk := slot_lt h3
      rw [if_neg (by omega), if_neg (by omega)]
      have z0 : slot (e ++ o :: g) (e.length + (k + 1)) = slot (o :: g) (k + 1) := slot_app_r
      refine ⟨z0.trans h3, ?_⟩
      rw [hl, get_app_r, Nat.add_assoc, get_app_r]
      rfl
  · rcases key j o1 z1 with ⟨h1, h2, h3⟩ | ⟨rfl, _⟩ | ⟨k1, rfl, h3⟩ <;> rcases key k o2 z2 with ⟨g1, g2, g3⟩ | ⟨rfl, _⟩ | ⟨k2, rfl, g3⟩
    · rw [if_neg h2, if_pos h1, if_neg g2, if_pos g1] at he
      exact he
    · rw [if_neg h2, if_pos h1, if_pos rfl] at he
      omega
    · rw [if_neg h2, if_pos h1, if_neg (by omega), if_neg (by omega)] at he
      omega
    · rw [if_neg g2, if_pos g1, if_pos rfl] at he
      omega
    · rfl
    · rw [if_pos rfl, if_neg (by omega), if_neg (by omega)] at he
      omega
    · rw [if_neg g2, if_pos g1, if_neg (by omega), if_neg (by omega)] at he
      omega
    · rw [if_pos rfl, if_neg (by omega), if_neg (by omega)] at he
      omega
    · rw [if_neg (by omega), if_neg (by omega), if_neg (by omega), if_neg (by omega)] at he
      omega
/-- .. or away -/
theorem Rp.unhd0 {w : Option V} {o : Option O} (r : Rp c H0 Fr H (σ ++ w :: τ) (e ++ o :: g) as) (hl : e.length = σ.length) : ∃ as', Rp c H0 Fr H (σ ++ τ) (e ++ g) as' := by
  have hg : g.length = τ.length := by
    have := r.len
    simp at this
    omega
  have key : ∀ j o', slot (e ++ g) j = some o' → (j < e.length ∧ slot e j = some o') ∨ (∃ k, j = e.length + k ∧ slot g k = some o') := fun j o' z => by
    by_cases hj : j < e.length
    · rw [slot_app_l hj] at z
      exact .inl ⟨hj, z⟩
    · obtain ⟨k, rfl⟩ : ∃ k, j = e.length + k := ⟨j - e.length, by omega⟩
      rw [slot_app_r] at z
      exact .inr ⟨k, rfl, z⟩
  refine r.re (by simp [hl, hg]) (fun j => if j < e.length then j else j + 1) (fun j o' z => ?_) (fun j k o1 o2 z1 z2 he => ?_)
  · rcases key j o' z with ⟨h1, h3⟩ | ⟨k, rfl, h3⟩
    · rw [if_pos h1, slot_app_l h1]
      exact ⟨h3, by rw [get_app_l (by omega), get_app_l (by omega)]⟩
    · rw [if_neg (by omega)]
      have z0 : slot (e ++ o :: g) (e.length + (k + 1)) = slot (o :: g) (k + 1) := slot_app_r
      refine ⟨z0.trans h3, ?_⟩
      rw [hl, get_app_r, Nat.add_assoc, get_app_r]
      rfl
  · split at he <;> split at he <;> omega
open Classical in
/-- the frame of a callee: the caller's, and what the caller's names own -/
noncomputable def frC (Fr H : Hp) (n : Nat) (as : Nat → List Addr) : Hp := fun b => if ∃ i, i < n ∧ b ∈ as i then H b else Fr b
theorem frC_in {Fr H : Hp} {n : Nat} {as : Nat → List Addr} {b : Addr} {i : Nat} (hi : i < n) (h : b ∈ as i) : frC Fr H n as b = H b := if_pos ⟨i, hi, h⟩
theorem frC_out {Fr H : Hp} {n : Nat} {as : Nat → List Addr} {b : Addr} (h : ∀ i, i < n → b ∉ as i) : frC Fr H n as b = Fr b := if_neg fun ⟨i, hi, q⟩ => h i hi q
/-- the callee's part -/
theorem Rp.callee (r : Rp c H0 Fr H (σ ++ τ) (e ++ g) as) (hl : e.length = σ.length) : Rp c H0 (frC Fr H e.length as) H τ g (fun i => as (e.length + i)) := by
  have hg : g.length = τ.length := by
    have := r.len
    simp at this
    omega
  refine ⟨hg, r.sub, fun b o h => ?_, fun i o q => ?_, fun i a ha => ?_, fun i j a ha hj => ?_, fun i => r.nd _, fun i q => r.emp _ (by rw [slot_app_r]; exact q), r.tab.re (Same.refl _) (fun _ _ => rfl) r.tab.n0 (fun p q => by rw [frC_out fun i _ => r.tab.na p q i]; exact r.tab.nF p q) fun p q i => r.tab.na p q _⟩
  · by_cases z : ∃ i, i < e.length ∧ b ∈ as i
    · obtain ⟨i, hi, hb⟩ := z
      rw [frC_in hi hb] at h
      exact ⟨h, (r.off i b hb).1⟩
    · rw [frC_out fun i hi q => z ⟨i, hi, q⟩] at h
      exact r.fr b o h
  · obtain ⟨v, h1, h2⟩ := r.own (e.length + i) o (by rw [slot_app_r]; exact q)
    rw [hl, get_app_r] at h1
    exact ⟨v, h1, h2⟩
  · refine ⟨(r.off _ a ha).1, ?_⟩
    rw [frC_out fun j hj q => by
      have := r.sep _ _ a ha q
      omega]
    exact (r.off _ a ha).2
  · have := r.sep _ _ a ha hj
    omega
/-- the two parts again, behind a call: G the callee's frame then, G2 what the caller wants of its own -/
theorem Rp.again (r : Rp c H0 Fr H (σ ++ τ) (e ++ g) as) (hl : e.length = σ.length) {H1 G G2 H' : Hp} {τ' : St} {g' : Env} {as' : Nat → List Addr} (s : Same H0 H1) (r' : Rp c H1 G H' τ' g' as')
    (hG : ∀ b o, frC Fr H e.length as b = some o → G b = some o) (hG2 : ∀ b o, G2 b = some o → G b = some o) (hG3 : ∀ i a, i < e.length → a ∈ as i → G2 a = none) : ∃ as2, Rp c H1 G2 H' (σ ++ τ') (e ++ g') as2 := by
  have keep : ∀ i a, i < e.length → a ∈ as i → H' a = H a ∧ H1 a = none := fun i a hi ha => by
    obtain ⟨x, hx⟩ := r.here ha
    have z := r'.fr a x (hG a x (by rw [frC_in hi ha]; exact hx))
    exact ⟨z.1.trans hx.symm, z.2⟩
  have apart : ∀ i j a, i < e.length → a ∈ as i → a ∉ as' j := fun i j a hi ha hj => by
    obtain ⟨x, hx⟩ := r.here ha
    have z := hG a x (by rw [frC_in hi ha]; exact hx)
    rw [(r'.off j a hj).2] at z
    cases z
  refine ⟨fun i => if i < e.length then as i else as' (i - e.length), by simp [hl, r'.len], r'.sub, fun b o h => r'.fr b o (hG2 b o h), fun i o q => ?_, fun i a ha => ?_, fun i j a ha hj => ?_, fun i => ?_, fun i q => ?_, r'.tab.re (Same.refl _) (fun _ _ => rfl) r'.tab.n0 (fun p q => ?_) fun p q i z => ?_⟩
  · by_cases hi : i < e.length
    · rw [slot_app_l hi] at q
      obtain ⟨v, h1, h2⟩ := r.own i o (by rw [slot_app_l hi]; exact q)
      rw [get_app_l (by omega)] at h1
      refine ⟨v, by rw [get_app_l (by omega)]; exact h1, ?_⟩
      show OwnR c H1 H' o v (if i < e.length then as i else as' (i - e.length))
      rw [if_pos hi]
      exact OwnR.mono s o v _ (fun a ha => (keep i a hi ha).1) h2
    · obtain ⟨k, rfl⟩ : ∃ k, i = e.length + k := ⟨i - e.length, by omega⟩
      rw [slot_app_r] at q
      obtain ⟨v, h1, h2⟩ := r'.own k o q
      refine ⟨v, by rw [hl, get_app_r]; exact h1, ?_⟩
      show OwnR c H1 H' o v (if e.length + k < e.length then as (e.length + k) else as' (e.length + k - e.length))
      rw [if_neg (by omega), Nat.add_sub_cancel_left]
      exact h2
  · by_cases hi : i < e.length
    · simp only [if_pos hi] at ha
      exact ⟨(keep i a hi ha).2, hG3 i a hi ha⟩
    · simp only [if_neg hi] at ha
      refine ⟨(r'.off _ a ha).1, ?_⟩
      cases z : G2 a with
      | none => rfl
      | some x =>
        have := hG2 a x z
        rw [(r'.off _ a ha).2] at this
        cases this
  · by_cases hi : i < e.length <;> by_cases hk : j < e.length
    · simp only [if_pos hi] at ha
      simp only [if_pos hk] at hj
      exact r.sep i j a ha hj
    · simp only [if_pos hi] at ha
      simp only [if_neg hk] at hj
      exact absurd hj (apart i _ a hi ha)
    · simp only [if_neg hi] at ha
      simp only [if_pos hk] at hj
      exact absurd ha (apart j _ a hk hj)
    · simp only [if_neg hi] at ha
      simp only [if_neg hk] at hj
      have := r'.sep _ _ a ha hj
      omega
  · by_cases hi : i < e.length
    · simp only [if_pos hi]
      exact r.nd i
    · simp only [if_neg hi]
      exact r'.nd _
  · by_cases hi : i < e.length
    · simp only [if_pos hi]
      rw [slot_app_l hi] at q
      exact r.emp i (by rw [slot_app_l hi]; exact q)
    · simp only [if_neg hi]
      obtain ⟨k, rfl⟩ : ∃ k, i = e.length + k := ⟨i - e.length, by omega⟩
      rw [slot_app_r] at q
      rw [Nat.add_sub_cancel_left]
      exact r'.emp k q
  · cases z : G2 p.1 with
    | none => rfl
    | some o =>
      have := hG2 _ _ z
      rw [r'.tab.nF p q] at this
      cases this
  · by_cases hi : i < e.length
    · simp only [if_pos hi] at z
      exact r.tab.na p q i z
    · simp only [if_neg hi] at z
      exact r'.tab.na p q _ z
theorem Rp.cutTail (r : Rp c H0 Fr H (σ ++ τ) (e ++ g) as) (hl : e.length = σ.length) : ∃ as', Rp c H0 Fr H σ e as' := by
  refine r.re hl id (fun j o z => ?_) (fun j k o1 o2 _ _ he => he)
  have hj := slot_lt z
  exact ⟨by rw [id, slot_app_l hj]; exact z, by rw [id, get_app_l (by omega)]⟩
theorem Rp.snocAll : ∀ {l : List D} {ws : List V} {σ : St} {e : Env} {as : Nat → List Addr}, Rp c H0 Fr H σ e as → Dats c H0 l ws → ∃ as', Rp c H0 Fr H (σ ++ ws.map some) (e ++ (l.map O.sh).map some) as'
  | [], ws, σ, e, as, r, h => by
    have h : ws = [] := h
    subst h
    exact ⟨as, by simpa using r⟩
  | d :: ds, _, σ, e, as, r, ⟨v, w, h1, h2, h3⟩ => by
    subst h1
    obtain ⟨as', r'⟩ := Rp.snocAll (r.snocSh h2) h3
    exact ⟨as', by simpa using r'⟩
theorem Kps.mono {H1 : Hp} (s : Same H0 H1) : ∀ {vs : List V} {rs : List R}, Kps c H0 σ vs rs → Kps c H1 σ vs rs
  | [], rs, h => h
  | v :: vs, rs, ⟨r, qs, h1, h2, h3⟩ => ⟨r, qs, h1, h2.mono s, Kps.mono s h3⟩
theorem args_ok : ∀ {rs : List R} {md : List Md} {vs : List V} {os : List O} {e e2 g : Env} {τ : St} {H0 : Hp} {as : Nat → List Addr}, Rp c H0 Fr H (σ ++ τ) (e ++ g) as → e.length = σ.length → Kps c H0 σ vs rs → asArgs md rs e = some (os, e2) →
    ∃ H1 as', Same H0 H1 ∧ Rp c H1 Fr H (σ ++ (τ ++ vs.map some)) (e2 ++ (g ++ os.map some)) as' ∧ e2.length = e.length ∧ os.length = vs.length
  | [], md, vs, os, e, e2, g, τ, H0, as, r, hl, ks, h => by
    cases vs with
    | nil =>
      cases h
      exact ⟨H0, as, Same.refl _, by simpa using r, rfl, rfl⟩
    | cons v vs =>
      obtain ⟨_, _, z, _⟩ := ks
      cases z
  | ra :: rs, md, vs, os, e, e2, g, τ, H0, as, r, hl, ks, h => by
    cases vs with
    | nil => cases ks
    | cons v vs =>
      obtain ⟨r1, qs, z, k1, ks⟩ := ks
      cases z
      have h : (match asArg (md.headD .lk) ra e with
        | some (o, e1) => (match asArgs md.tail rs e1 with
          | some (os, e2) => some (o :: os, e2)
          | none => none)
        | none => none) = some (os, e2) := h
      cases q : asArg (md.headD .lk) ra e with
      | none =>
        rw [q] at h
        cases h
      | some p =>
        obtain ⟨o, e1⟩ := p
        rw [q] at h
        have h : (match asArgs md.tail rs e1 with
          | some (os, e2) => some (o :: os, e2)
          | none => none) = some (os, e2) := h
        cases q2 : asArgs md.tail rs e1 with
        | none =>
          rw [q2] at h
          cases h
        | some p2 =>
          obtain ⟨os1, e3⟩ := p2
          rw [q2] at h
          cases h
          have step : ∃ H1 as', Same H0 H1 ∧ Rp c H1 Fr H (σ ++ (τ ++ [some v])) (e1 ++ (g ++ [some o])) as' ∧ e1.length = e.length := by
            have lk : ∀ {d : D} {e1' : Env}, leak ra e = .ok d e1' → ∃ H1 as', Same H0 H1 ∧ Rp c H1 Fr H (σ ++ (τ ++ [some v])) (e1' ++ (g ++ [some (.sh d)])) as' ∧ e1'.length = e.length := fun {d e1'} hz => by
              cases ra with
              | d x =>
                cases hz
                exact ⟨H0, as, Same.refl _, by simpa using r.snocSh k1, rfl⟩
              | sl i =>
                have hz : (match slot e i with
                  | some o => Rs.ok o.frz (e.set i (some (.sh o.frz)))
                  | none => .bad) = .ok d e1' := hz
                cases qs : slot e i with
                | none =>
                  rw [qs] at hz
                  cases hz
                | some o' =>
                  rw [qs] at hz
                  cases hz
                  have hi := slot_lt qs
                  obtain ⟨H1, w, s1, r1, hw, hd⟩ := r.freeze (i := i) (by rw [slot_app_l hi]; exact qs)
                  have k1 : σ[i]? = some (some v) := k1
                  rw [get_app_l (by omega), k1] at hw
                  cases hw
                  rw [List.set_append_left _ _ hi] at r1
                  exact ⟨H1, _, s1, by simpa using r1.snocSh hd, by simp⟩
              | ow o' => exact k1.elim
            unfold asArg at q
            split at q
            · rename_i i
              split at q
              · cases q
                rename_i qs
                obtain ⟨as', r'⟩ := r.move hl qs k1
                exact ⟨H0, as', Same.refl _, r', by simp⟩
              · cases q
            · split at q
              · cases q
                rename_i hz
                exact lk hz
              · cases q
          obtain ⟨H1, as1, s1, r1, hl1⟩ := step
          have ks' : Kps c H1 σ vs rs := ks.mono s1
          obtain ⟨H2, as2, s2, r2, hl2, hn⟩ := args_ok (τ := τ ++ [some v]) (g := g ++ [some o]) r1 (by omega) ks' q2
          exact ⟨H2, as2, s1.trans s2, by simpa using r2, by omega, by simp [hn]⟩
theorem back_len : ∀ (md : List Md) (rs : List R) (os : List O) (e : Env), (back md rs os e).length = e.length
  | md, [], os, e => by unfold back; rfl
  | md, r :: rs, [], e => by unfold back; rfl
  | md, r :: rs, o :: os, e => by
    unfold back
    split
    · rw [back_len]; simp
    · rw [back_len]
theorem back_ok : ∀ {rs : List R} {md : List Md} {vs : List V} {os : List O} {e : Env} {τ : St} {K0 : Hp} {as : Nat → List Addr}, Rp c H0 Fr H (σ ++ (vs.map some ++ τ)) (e ++ os.map some) as → e.length = σ.length → Kps c K0 σ vs rs → rs.length ≤ os.length →
    ∃ as' g, Rp c H0 Fr H (σ ++ τ) (back md rs os e ++ g) as'
  | [], md, vs, os, e, τ, K0, as, r, hl, ks, hn => by
    cases vs with
    | nil => exact ⟨as, os.map some, by simpa [back] using r⟩
    | cons v vs =>
      obtain ⟨_, _, z, _⟩ := ks
      cases z
  | ra :: rs, md, vs, os, e, τ, K0, as, r, hl, ks, hn => by
    cases vs with
    | nil => cases ks
    | cons v vs =>
      obtain ⟨r1, qs, z, k1, ks⟩ := ks
      cases z
      cases os with
      | nil => simp at hn
      | cons o os =>
        have r' : Rp c H0 Fr H (σ ++ some v :: (vs.map some ++ τ)) (e ++ some o :: os.map some) as := by simpa using r
        have hn' : rs.length ≤ os.length := by simpa using hn
        unfold back
        split
        · rename_i i q1
          have k1 : σ[i]? = some (some v) := k1
          have hi : i < e.length := by
            have := (List.getElem?_eq_some_iff.mp k1).1
            omega
          obtain ⟨as1, r1⟩ := r'.unhd hl hi k1
          exact back_ok (e := e.set i (some o)) r1 (by simp [hl]) ks hn'
        · obtain ⟨as1, r1⟩ := r'.unhd0 hl
          exact back_ok r1 hl ks hn'
end
/-! ### a def's promise -/
def spF (t : Tb) (c : Cn) (F : Fn) (n : Nat) : Sp := fun vs H Q E => vs.length = n ∧ ∃ (os : List O) (H0 Fr : Hp) (as : Nat → List Addr), Rp c H0 Fr H (vs.map some) (os.map some) as ∧
  match F os with
  | .rt o os' => ∀ v H1 H', Same H0 H1 → Rp1 c H1 Fr H' (vs.map some) ((mergeO os os').map some) v o → Q v H'
  | .ex k p os' => ∀ H1 H' as' cls dx, Same H0 H1 → Rp c H1 Fr H' (vs.map some) ((mergeO os os').map some) as' → ExA t c H1 H' k p cls dx → E cls dx H'
  | .bad => False
theorem Kps.len {c : Cn} {H0 : Hp} {σ : St} : ∀ {vs : List V} {rs : List R}, Kps c H0 σ vs rs → rs.length = vs.length
  | [], rs, h => by
    have h : rs = [] := h
    rw [h]
    rfl
  | v :: vs, rs, ⟨r, qs, h1, _, h3⟩ => by
    subst h1
    simp [Kps.len h3]
/-- the callee runs -/
theorem call_ok {t : Tb} {c : Cn} {W : WX} {F : Fn} {md : List Md} {dfl : List D} {n : Nat} {ms : List (M R)} {σ : St} {H : Hp} {Q : VK} {dvs : List V} (hd : ∀ H, Dats c H dfl dvs) (hn : ms.length + dfl.length = n)
    (q : tG t c W (rrR c) (mCall F md dfl ms) σ H Q) : tG t c W (rrRs c) (mRs ms) σ H fun vs H1 => spF t c F n (vs ++ dvs) H1 Q (fun cls d H => W cls d σ H) := by
  obtain ⟨e, H0, Fr, as, rp, po⟩ := q
  have hlen : ∀ (ms : List (M R)) (e : Env) (rs : List R) (e1 : Env), mRs ms e = .ok rs e1 → rs.length = ms.length := fun ms => by
    induction ms with
    | nil =>
      intro e rs e1 h
      cases h
      rfl
    | cons m ms ih =>
      intro e rs e1 h
      have h : andThen (m e) (fun r e1 => andThen (mRs ms e1) fun rs e2 => .ok (nrm r :: rs) e2) = .ok rs e1 := h
      cases q1 : m e with
      | ok r e2 =>
        rw [q1] at h
        have h : andThen (mRs ms e2) (fun rs e2 => .ok (nrm r :: rs) e2) = .ok rs e1 := h
        cases q2 : mRs ms e2 with
        | ok rs2 e3 =>
          rw [q2] at h
          cases h
          simp [ih _ _ _ q2]
        | ex _ _ _ =>
          rw [q2] at h
          cases h
        | bad =>
          rw [q2] at h
          cases h
      | ex _ _ _ =>
        rw [q1] at h
        cases h
      | bad =>
        rw [q1] at h
        cases h
  refine ⟨e, H0, Fr, as, rp, ?_⟩
  have po : Po t c W Fr σ H0 (rrR c Fr σ) Q (andThen (mRs ms e) fun rs e1 => match asArgs md rs e1 with
    | some (os, e2) => (match F (os ++ dfl.map O.sh) with
      | .rt o os' => .ok (ofRes o) (back md rs (mergeO (os ++ dfl.map O.sh) os') e2)
      | .ex c p os' => .ex c p (back md rs (mergeO (os ++ dfl.map O.sh) os') e2)
      | .bad => .bad)
    | none => .bad) := po
  cases qm : mRs ms e with
  | ex k p e1 =>
    rw [qm] at po
    exact po
  | bad =>
    rw [qm] at po
    exact po
  | ok rs e1 =>
    have hrs := hlen _ _ _ _ qm
    rw [qm] at po
    intro vs H1 H' s ⟨⟨as1, rp1⟩, ks⟩
    have po := Po.mono s po
    have po : Po t c W Fr σ H1 (rrR c Fr σ) Q (match asArgs md rs e1 with
      | some (os, e2) => (match F (os ++ dfl.map O.sh) with
        | .rt o os' => .ok (ofRes o) (back md rs (mergeO (os ++ dfl.map O.sh) os') e2)
        | .ex c p os' => .ex c p (back md rs (mergeO (os ++ dfl.map O.sh) os') e2)
        | .bad => .bad)
      | none => .bad) := po
    cases qa : asArgs md rs e1 with
    | none =>
      rw [qa] at po
      exact po.elim
    | some pr =>
      obtain ⟨os, e2⟩ := pr
      rw [qa] at po
      obtain ⟨H2, as2, s2, rp2, hl2, hlo⟩ := args_ok (g := []) (τ := []) (by simpa using rp1) rp1.len ks qa
      have hl : e2.length = σ.length := by rw [hl2]; exact rp1.len
      have hd2 : Dats c H2 dfl dvs := hd H2
      obtain ⟨as3, rp3⟩ := rp2.snocAll hd2
      have rp3 : Rp c H2 Fr H' (σ ++ (vs ++ dvs).map some) (e2 ++ (os ++ dfl.map O.sh).map some) as3 := by simpa using rp3
      have po := Po.mono s2 po
      have hvs : (vs ++ dvs).length = n := by
        rw [List.length_append, ← Kps.len ks, hrs, hd2.len]
        exact hn
      refine ⟨hvs, os ++ dfl.map O.sh, H2, frC Fr H' e2.length as3, _, rp3.callee hl, ?_⟩
      have po : Po t c W Fr σ H2 (rrR c Fr σ) Q (match F (os ++ dfl.map O.sh) with
        | .rt o os' => .ok (ofRes o) (back md rs (mergeO (os ++ dfl.map O.sh) os') e2)
        | .ex c p os' => .ex c p (back md rs (mergeO (os ++ dfl.map O.sh) os') e2)
        | .bad => .bad) := po
      have fin : ∀ {H3 H'' : Hp} {bs : List Addr} {os2 : List O} {as4 : Nat → List Addr}, Same H2 H3 → (∀ a ∈ bs, H3 a = none ∧ frC Fr H' e2.length as3 a = none) → Rp c H3 (addF (frC Fr H' e2.length as3) H'' bs) H'' ((vs ++ dvs).map some) (os2.map some) as4 →
          ∃ as5, Rp c H3 (addF Fr H'' bs) H'' σ (back md rs os2 e2) as5 := fun {H3 H'' bs os2 as4} s3 off r4 => by
        have frz : ∀ b o, Fr b = some o → frC Fr H' e2.length as3 b = some o := fun b o h => by
          rw [frC_out fun i hi hb => by
            rw [(rp3.off i b hb).2] at h
            cases h]
          exact h
        have nin : ∀ {i a}, i < e2.length → a ∈ as3 i → a ∉ bs := fun {i a} hi ha hb => by
          have z := (off a hb).2
          rw [frC_in hi ha] at z
          obtain ⟨x, hx⟩ := rp3.here ha
          rw [hx] at z
          cases z
        obtain ⟨as5, r5⟩ := rp3.again hl s3 r4 (G2 := addF Fr H'' bs) (fun b o h => by
            have hb : b ∉ bs := fun q => by
              rw [(off b q).2] at h
              cases h
            rw [addF_out hb]
            exact h) (fun b o h => by
            by_cases hb : b ∈ bs
            · rw [addF_in hb] at h ⊢
              exact h
            · rw [addF_out hb] at h ⊢
              exact frz b o h) (fun i a hi ha => by
            rw [addF_out (nin hi ha)]
            exact (rp3.off i a ha).2)
        have hlen2 : rs.length ≤ os2.length := by
          have z := r4.len
          simp at z
          have z2 := Kps.len ks
          omega
        obtain ⟨as6, g, r6⟩ := back_ok (md := md) (vs := vs) (τ := dvs.map some) (by simpa using r5) hl ks hlen2
        exact r6.cutTail (by rw [back_len]; exact hl)
      cases qF : F (os ++ dfl.map O.sh) with
      | rt o os' =>
        rw [qF] at po
        intro v H3 H'' s3 ⟨bs, as4, ow, nd, off, r4⟩
        obtain ⟨as5, r5⟩ := fin s3 off r4
        have r1 : Rp1 c H3 Fr H'' σ (back md rs (mergeO (os ++ dfl.map O.sh) os') e2) v o := ⟨bs, as5, ow, nd, fun a ha => ⟨(off a ha).1, by
          cases z : Fr a with
          | none => rfl
          | some x =>
            have := (off a ha).2
            rw [frC_out fun i hi hb => by
              rw [(rp3.off i a hb).2] at z
              cases z] at this
            rw [this] at z
            cases z⟩, r5⟩
        refine po v H3 H'' s3 ?_
        cases o with
        | sh d => exact ⟨r1.rp, ow.2⟩
        | fl l => exact r1
        | fd l => exact r1
        | fo k l => exact r1
      | ex k p os' =>
        rw [qF] at po
        intro H3 H'' as4 cls dx s3 r4 xa
        obtain ⟨as5, r5⟩ := fin (bs := []) s3 (fun a ha => by cases ha) (by rw [addF_nil]; exact r4)
        rw [addF_nil] at r5
        exact po H3 H'' as5 cls dx s3 r5 xa
      | bad =>
        rw [qF] at po
        exact po.elim
section
variable {X : Cx} {t : Tb} {W : WX} {k n : Nat} {f : Addr} {fd : FuncData} {ps : List Str} {Z : Fn} {x : Str} {p pos : Pos} {a : Expr} {es : List Expr} {ms : List (M R)} {ds : List Value} {dvs : List V} {dfl : List D}
abbrev FO (P : Program) (w : World) (K : PySem.W.Frag) (mg : Str → Option Value) (base : Heap) (t : Tb) (k : Nat) (f : Addr) (fd : FuncData) (ps : List Str) (Z : Fn) (n : Nat) : Prop := FnOk P w K mg base (L2.CX P w) k f fd ps (spF t ⟨K, t.cls, t.fld, t.tabs, t.ex, t.exM, t.exR⟩ Z n)
theorem se_call (G : FO X.prog X.w X.K X.mg X.base t k f fd ps Z n) (hr : Room k X.A) (hg : Gl X x) (hm : X.mg x = some (.ref f)) (hk : PySem.W.keepIn X.K (.ref f) = true) (hb : Binds X.K fd ps ds) (hd : Vals dvs ds) (hdd : ∀ H, Dats (cn X t) H dfl dvs) (tk : Takes X W) (md : List Md)
    (ha : SA X t W (a :: es) (mRs ms)) (hn : ms.length + dfl.length = n := by rfl) (hdb : (x == ("__debug__" : Str)) = false := by decide) (he : starEach (a :: es) X.env = (false, eval a X.env) :: starEach es X.env := by rfl) (hpl : (backTo pos (starEach es X.env)).any (·.1) = false := by rfl) :
    SE X t W (.Call (.Name x p) (a :: es) [] pos) (mCall Z md dfl ms) :=
  PE.imp (pe_callSD G hr hg hm hk hb hd (passAt tk) ha hdb he hpl) fun _ _ _ q => call_ok hdd hn q
end
end F
end

section
set_option Elab.async false
set_option linter.all false
set_option autoImplicit false
set_option maxRecDepth 100000
/-! F layer, part E: statements. -/
namespace F
open PySem PySem.Spec PyProof.Rows L2
/-- slots that the code never stores -/
def Prot (P : Nat → Bool) (σ σ' : St) : Prop := σ'.length = σ.length ∧ ∀ i, P i = true → σ'[i]? = σ[i]?
theorem Prot.refl {P : Nat → Bool} {σ : St} : Prot P σ σ := ⟨rfl, fun _ _ => rfl⟩
theorem Prot.trans {P : Nat → Bool} {σ σ' σ2 : St} (a : Prot P σ σ') (b : Prot P σ' σ2) : Prot P σ σ2 := ⟨b.1.trans a.1, fun i hi => (b.2 i hi).trans (a.2 i hi)⟩
theorem Prot.set {P : Nat → Bool} {σ : St} {i : Nat} {x : Option V} (h : P i = false) : Prot P σ (σ.set i x) := ⟨by simp, fun j hj => List.getElem?_set_ne fun z => by
  rw [z, hj] at h
  cases h⟩
def PoS (t : Tb) (c : Cn) (W : WX) (P : Nat → Bool) (Fr : Hp) (σ : St) (H0 : Hp) (D : Ends) : SR → Prop
  | .nx e => ∀ σ' H1 H' as, Same H0 H1 → Prot P σ σ' → Rp c H1 Fr H' σ' e as → D.nx σ' H'
  | .bk e => ∀ σ' H1 H' as, Same H0 H1 → Prot P σ σ' → Rp c H1 Fr H' σ' e as → D.bk σ' H'
  | .ct e => ∀ σ' H1 H' as, Same H0 H1 → Prot P σ σ' → Rp c H1 Fr H' σ' e as → D.ct σ' H'
  | .rt o e => ∀ v σ' H1 H', Same H0 H1 → Prot P σ σ' → Rp1 c H1 Fr H' σ' e v o → D.rt v H'
  | .ex k p e => ∀ σ' H1 H' as cls dx, Same H0 H1 → Prot P σ σ' → Rp c H1 Fr H' σ' e as → ExA t c H1 H' k p cls dx → W cls dx σ' H'
  | .bad => False
def tS (t : Tb) (c : Cn) (W : WX) (P : Nat → Bool) (m : MS) : TS := fun D σ H => ∃ (e : Env) (H0 Fr : Hp) (as : Nat → List Addr), Rp c H0 Fr H σ e as ∧ PoS t c W P Fr σ H0 D (m e)
abbrev SS (X : Cx) (t : Tb) (W : WX) (P : Nat → Bool) (st : Stmt) (m : MS) : Prop := PS X st (tS t (cn X t) W P m)
abbrev SSs (X : Cx) (t : Tb) (W : WX) (P : Nat → Bool) (st : List Stmt) (m : MS) : Prop := PSs X st (tS t (cn X t) W P m)
theorem PS.imp {X : Cx} {s : Stmt} {u u' : TS} (h : PS X s u) (k : ∀ D σ H, u' D σ H → u D σ H) : PS X s u' := ⟨fun pins s σ H D I q => h.run pins s σ H D I (k _ _ _ q)⟩
theorem PSs.imp {X : Cx} {s : List Stmt} {u u' : TS} (h : PSs X s u) (k : ∀ D σ H, u' D σ H → u D σ H) : PSs X s u' := ⟨fun pins s σ H D I q => h.run pins s σ H D I (k _ _ _ q)⟩
section
variable {t : Tb} {c : Cn} {W : WX} {P : Nat → Bool} {Fr H0 H1 : Hp} {σ σ' : St} {D : Ends}
theorem PoS.mono {x : SR} (s : Same H0 H1) (p : Prot P σ σ') (h : PoS t c W P Fr σ H0 D x) : PoS t c W P Fr σ' H1 D x := by
  cases x with
  | nx e => exact fun σ2 H2 H' as s2 p2 r => h σ2 H2 H' as (s.trans s2) (p.trans p2) r
  | bk e => exact fun σ2 H2 H' as s2 p2 r => h σ2 H2 H' as (s.trans s2) (p.trans p2) r
  | ct e => exact fun σ2 H2 H' as s2 p2 r => h σ2 H2 H' as (s.trans s2) (p.trans p2) r
  | rt o e => exact fun v σ2 H2 H' s2 p2 r => h v σ2 H2 H' (s.trans s2) (p.trans p2) r
  | ex k q e => exact fun σ2 H2 H' as cls dx s2 p2 r xa => h σ2 H2 H' as cls dx (s.trans s2) (p.trans p2) r xa
  | bad => exact h
/-- an expression ahead -/
theorem PoS.of {α β : Type} {RR : Hp → Hp → Env → β → α → Prop} {x : Rs α} {f : α → Env → SR} {k : β → Hp → Prop} (h : PoS t c W P Fr σ H0 D (sOf x f))
    (hk : ∀ (a : α) (e : Env) (b : β) (H1 H' : Hp), Same H0 H1 → RR H1 H' e b a → PoS t c W P Fr σ H1 D (f a e) → k b H') : Po t c W Fr σ H0 RR k x := by
  cases x with
  | ok a e1 => exact fun b H1 H' s rr => hk a e1 b H1 H' s rr (PoS.mono s Prot.refl h)
  | ex k' p e1 => exact fun H1 H' as cls dx s rp xa => h σ H1 H' as cls dx s Prot.refl rp xa
  | bad => exact h
theorem PoS.ofOS {γ : Type} {x : Option γ} {f : γ → SR} (h : PoS t c W P Fr σ H0 D (ofOS x f)) : ∃ a, x = some a ∧ PoS t c W P Fr σ H0 D (f a) := by
  cases x with
  | none => exact h.elim
  | some a => exact ⟨a, rfl, h⟩
theorem PoS.leak {H : Hp} {ra : R} {e1 : Env} {v : V} {f : F.D → Env → SR} (po : PoS t c W P Fr σ H0 D (sOf (leak ra e1) f)) (rr : RpR c H0 Fr H σ e1 v ra) :
    ∃ d e2 H2 as, leak ra e1 = .ok d e2 ∧ Same H0 H2 ∧ Rp c H2 Fr H σ e2 as ∧ Dat c H2 d v ∧ PoS t c W P Fr σ H2 D (f d e2) := by
  rcases leak_ok (e' := e1) rr with ⟨d, e2, q⟩ | q
  · rw [q] at po
    obtain ⟨H2, as, s, rp, hd⟩ := RpR.leak rr q
    exact ⟨d, e2, H2, as, q, s, rp, hd, PoS.mono s Prot.refl po⟩
  · rw [q] at po
    exact po.elim
theorem Rp.takeOut {H : Hp} {e : Env} {as : Nat → List Addr} (r : Rp c H0 Fr H σ e as) {i : Nat} {o : O} {v : V} (q : slot e i = some o) (hv : σ[i]? = some (some v)) : Rp1 c H0 Fr H σ (e.set i none) v o := by
  obtain ⟨w, h1, h2⟩ := r.own i o q
  rw [hv] at h1
  cases h1
  refine ⟨as i, setA as i [], h2, r.nd i, r.off i, ?_⟩
  have d := r.drop i
  refine ⟨d.len, d.sub, fun b x hb => ?_, d.own, fun j a ha => ?_, d.sep, d.nd, d.emp, d.tab.re (Same.refl _) (fun _ _ => rfl) d.tab.n0 (fun p q' => by rw [addF_out (r.tab.na p q' i)]; exact d.tab.nF p q') d.tab.na⟩
  · by_cases z : b ∈ as i
    · rw [addF_in z] at hb
      exact ⟨hb, (r.off i b z).1⟩
    · rw [addF_out z] at hb
      exact r.fr b x hb
  · obtain ⟨hj, ha⟩ := setA_mem ha
    refine ⟨(r.off j a ha).1, ?_⟩
    rw [addF_out fun z => hj (r.sep j i a ha z)]
    exact (r.off j a ha).2
end
section
variable {X : Cx} {t : Tb} {W : WX} {P : Nat → Bool} {st : Stmt} {rest : List Stmt} {m m1 m2 : MS} {a b : Expr} {ma mb : M R} {pos : Pos}
theorem ss_bad : SS X t W P st sBad := PS.imp ps_never fun _ _ _ ⟨_, _, _, _, _, q⟩ => q
theorem sss_nil : SSs X t W P [] sPass := PSs.imp pss_nil fun D σ H ⟨e, H0, Fr, as, rp, po⟩ => po σ H0 H as (Same.refl _) Prot.refl rp
theorem sss_one (h : SS X t W P st m) : SSs X t W P [st] m := pss_one h
theorem sss_cons (h : SS X t W P st m1) (h2 : SSs X t W P rest m2) : SSs X t W P (st :: rest) (sSeq m1 m2) := by
  refine PSs.imp (pss_cons h h2) fun D σ H ⟨e, H0, Fr, as, rp, po⟩ => ?_
  refine ⟨e, H0, Fr, as, rp, ?_⟩
  have po : PoS t (cn X t) W P Fr σ H0 D (match m1 e with
    | .nx e1 => m2 e1
    | r => r) := po
  cases q : m1 e with
  | nx e1 =>
    rw [q] at po
    exact fun σ' H1 H' as s p r => ⟨e1, H1, Fr, as, r, PoS.mono s p po⟩
  | bk e1 =>
    rw [q] at po
    exact po
  | ct e1 =>
    rw [q] at po
    exact po
  | rt o e1 =>
    rw [q] at po
    exact po
  | ex k p e1 =>
    rw [q] at po
    exact po
  | bad =>
    rw [q] at po
    exact po
theorem ss_exp (h : SE X t W a ma) (hs : swapsWith a none pos.line X.env = pure false := by rfl) : SS X t W P (.Expr a pos) (sExp ma) := by
  refine PS.imp (ps_expr h hs) fun D σ H ⟨e, H0, Fr, as, rp, po⟩ => ?_
  refine ⟨e, H0, Fr, as, rp, PoS.of po fun r e1 v H1 H' s rr po => ?_⟩
  obtain ⟨as2, rp2⟩ := RpR.rp rr
  exact po σ H1 H' as2 (Same.refl _) Prot.refl rp2
theorem ret_read {D : Ends} {σ : St} {H : Hp} (q : tS t (cn X t) W P (sRet ma) D σ H) : tI X t W ma σ H fun v H' => D.rt v H' := by
  obtain ⟨e, H0, Fr, as, rp, po⟩ := q
  refine ⟨e, H0, Fr, as, rp, PoS.of po fun r e1 v H1 H' s rr po => ?_⟩
  cases r with
  | d x =>
    obtain ⟨⟨as2, rp2⟩, hd⟩ := rr
    exact po v σ H1 H' (Same.refl _) Prot.refl (rp2.sh1 hd)
  | ow o => exact po v σ H1 H' (Same.refl _) Prot.refl rr
  | sl i =>
    obtain ⟨⟨as2, rp2⟩, hv⟩ := rr
    have po : PoS t (cn X t) W P Fr σ H1 D (match slot e1 i with
      | some (.sh d) => .rt (.sh d) e1
      | some o => .rt o (e1.set i none)
      | none => .bad) := po
    cases q : slot e1 i with
    | none =>
      rw [q] at po
      exact po.elim
    | some o =>
      rw [q] at po
      cases o with
      | sh d =>
        obtain ⟨w, h1, h2⟩ := rp2.own i _ q
        rw [hv] at h1
        cases h1
        exact po v σ H1 H' (Same.refl _) Prot.refl (rp2.sh1 h2.2)
      | fl l => exact po v σ H1 H' (Same.refl _) Prot.refl (rp2.takeOut q hv)
      | fd l => exact po v σ H1 H' (Same.refl _) Prot.refl (rp2.takeOut q hv)
      | fo k l => exact po v σ H1 H' (Same.refl _) Prot.refl (rp2.takeOut q hv)
theorem ss_ret (h : SE X t W a ma) : SS X t W P (.Return (some a) pos) (sRet ma) := PS.imp (ps_ret h) fun D σ H q => ret_read q
theorem ss_if {c : Expr} {s1 s2 : List Stmt} {mc : M Bool} (h : SB X t W c mc) (h1 : SSs X t W P s1 m1) (h2 : SSs X t W P s2 m2) : SS X t W P (.If c s1 s2 pos) (sIf mc m1 m2) := by
  refine PS.imp (ps_if h h1 h2) fun D σ H ⟨e, H0, Fr, as, rp, po⟩ => ?_
  refine ⟨e, H0, Fr, as, rp, PoS.of po fun x e1 k H1 H' s ⟨ek, as2, rp2⟩ po => ?_⟩
  subst ek
  cases k with
  | true => exact ⟨e1, H1, Fr, as2, rp2, po⟩
  | false => exact ⟨e1, H1, Fr, as2, rp2, po⟩
/-- the store behind an answer -/
theorem set_ok {c : Cn} {i : Nat} (hi : P i = false) {σ : St} {H : Hp} {D : Ends} {Fr H1 : Hp} {e1 : Env} {v : V} {r : R} (rr : RpR c H1 Fr H σ e1 v r)
    (po : PoS t c W P Fr σ H1 D (setR i r e1)) : D.nx (σ.set i (some v)) H := by
  cases r with
  | ow o =>
    obtain ⟨as2, rp2⟩ := Rp1.set (i := i) rr
    exact po _ H1 H as2 (Same.refl _) (Prot.set hi) rp2
  | d x =>
    obtain ⟨⟨as2, rp2⟩, hd⟩ := rr
    exact po _ H1 H _ (Same.refl _) (Prot.set hi) (rp2.setSh hd)
  | sl j =>
    obtain ⟨d, e2, H2, as2, q, s2, rp2, hd, po⟩ := PoS.leak (ra := .sl j) po rr
    exact po _ H2 H _ (Same.refl _) (Prot.set hi) (rp2.setSh hd)
theorem ss_set {i : Nat} {x : Str} {pos' : Pos} (hP : P i = false) (hN : X.N.Nodup) (hi : X.N[i]? = some x) (hx : Loc X.env.scope x) (he : SE X t W a ma) (hs : swapsWith a (some (.Name x pos')) pos.line X.env = pure false := by rfl)
    (hf : X.fn x = true ∨ X.env.scope.names.lookup x = some .local := by first | exact .inl rfl | exact .inr rfl | assumption) : SS X t W P (.Assign [.Name x pos'] a pos) (sSet i ma) := by
  refine PS.imp (ps_set hN hi hx he hs hf) fun D σ H ⟨e, H0, Fr, as, rp, po⟩ => ?_
  exact ⟨e, H0, Fr, as, rp, PoS.of po fun r e1 v H1 H' s rr po => set_ok hP rr po⟩
/-! ### targets -/
def tGt (c : Cn) (P : Nat → Bool) (tg : Tg) : TG := fun v σ H Q => ∃ (e : Env) (H0 Fr : Hp) (as : Nat → List Addr) (d : D) (e' : Env), Rp c H0 Fr H σ e as ∧ Dat c H0 d v ∧ tg.put d e = some e' ∧ ∀ σ' as', Prot P σ σ' → Rp c H0 Fr H σ' e' as' → Q σ' H
def tGts (c : Cn) (P : Nat → Bool) (tgs : List Tg) : TGs := fun vs σ H Q => ∃ (e : Env) (H0 Fr : Hp) (as : Nat → List Addr) (ds : List D) (e' : Env), Rp c H0 Fr H σ e as ∧ Dats c H0 ds vs ∧ putAll tgs ds e = some e' ∧ ∀ σ' as', Prot P σ σ' → Rp c H0 Fr H σ' e' as' → Q σ' H
abbrev SG (X : Cx) (t : Tb) (P : Nat → Bool) (target : Expr) (tg : Tg) : Prop := PG X target (tGt (cn X t) P tg)
abbrev SGs (X : Cx) (t : Tb) (P : Nat → Bool) (ts : List Expr) (tgs : List Tg) : Prop := PGs X ts (tGts (cn X t) P tgs)
theorem PG.imp {X : Cx} {tg : Expr} {u u' : TG} (h : PG X tg u) (k : ∀ v σ H Q, u' v σ H Q → u v σ H Q) : PG X tg u' := ⟨fun pins s σ H v u Q I r q => h.run pins s σ H v u Q I r (k _ _ _ _ q)⟩
theorem PGs.imp {X : Cx} {ts : List Expr} {u u' : TGs} (h : PGs X ts u) (k : ∀ v σ H Q, u' v σ H Q → u v σ H Q) : PGs X ts u' := ⟨fun pins s σ H v u Q I r q => h.run pins s σ H v u Q I r (k _ _ _ _ q)⟩
theorem sg_name {i : Nat} {x : Str} (hP : P i = false) (hN : X.N.Nodup) (hi : X.N[i]? = some x) (hx : Loc X.env.scope x) (hf : X.fn x = true ∨ X.env.scope.names.lookup x = some .local := by first | exact .inl rfl | exact .inr rfl | assumption) : SG X t P (.Name x pos) (.nm i) := by
  refine PG.imp (pg_name hN hi hx hf) fun v σ H Q ⟨e, H0, Fr, as, d, e', rp, hd, hp, q⟩ => ?_
  cases hp
  exact q _ _ (Prot.set hP) (rp.setSh hd)
theorem sgs_nil : SGs X t P [] [] := by
  refine PGs.imp pgs_nil fun vs σ H Q ⟨e, H0, Fr, as, ds, e', rp, hd, hp, q⟩ => ?_
  cases ds with
  | nil =>
    cases hp
    exact ⟨hd, q σ as Prot.refl rp⟩
  | cons d ds => cases hp
theorem sgs_cons {g : Expr} {gs : List Expr} {tg : Tg} {tgs : List Tg} (h1 : SG X t P g tg) (h2 : SGs X t P gs tgs)
    (hs : (assignEach (g :: gs) X.env).map (·.2) = assign g X.env :: (assignEach gs X.env).map (·.2) := by rfl) : SGs X t P (g :: gs) (tg :: tgs) := by
  refine PGs.imp (pgs_cons h1 h2 hs) fun vs σ H Q ⟨e, H0, Fr, as, ds, e', rp, hd, hp, q⟩ => ?_
  cases ds with
  | nil => cases hp
  | cons d ds =>
    obtain ⟨v, r, h1, h2, h3⟩ := hd
    have hp : (match tg.put d e with
      | some e1 => putAll tgs ds e1
      | none => none) = some e' := hp
    cases q1 : tg.put d e with
    | none =>
      rw [q1] at hp
      cases hp
    | some e1 =>
      rw [q1] at hp
      exact ⟨v, r, h1, e, H0, Fr, as, d, e1, rp, h2, q1, fun σ' as' p rp' => ⟨e1, H0, Fr, as', ds, e', rp', h3, hp, fun σ2 as2 p2 rp2 => q σ2 as2 (p.trans p2) rp2⟩⟩
theorem putAll_len : ∀ {tgs : List Tg} {ds : List D} {e e' : Env}, putAll tgs ds e = some e' → ds.length = tgs.length
  | [], [], _, _, _ => rfl
  | [], _ :: _, _, _, h => by cases h
  | _ :: _, [], _, _, h => by cases h
  | tg :: tgs, d :: ds, e, e', h => by
    have hp : (match tg.put d e with
      | some e1 => putAll tgs ds e1
      | none => none) = some e' := h
    cases q1 : tg.put d e with
    | none =>
      rw [q1] at hp
      cases hp
    | some e1 =>
      rw [q1] at hp
      simp [putAll_len hp]
theorem sg_tup {gs : List Expr} {k : Nat} {tgs : List Tg} (hc : X.calm = true) (h : SGs X t P gs tgs) (hn : (assignEach gs X.env).length = tgs.length := by rfl) (hst : (assignEach gs X.env).findIdx? (·.1) = none := by rfl) : SG X t P (.Tuple gs k pos) (.tp tgs) := by
  refine PG.imp (pg_tup hc h hn hst) fun v σ H Q ⟨e, H0, Fr, as, d, e', rp, hd, hp, q⟩ => ?_
  cases d with
  | tup ds =>
    obtain ⟨_, a, vs, h1, h2, h3⟩ := hd
    have hp : putAll tgs ds e = some e' := hp
    exact ⟨a, vs, h1, SqT.same rp.sub h2, by rw [h3.len, putAll_len hp], e, H0, Fr, as, ds, e', rp, h3, hp, q⟩
  | _ => cases hp
theorem ss_unp {target : Expr} {tg : Tg} (he : SE X t W a ma) (hg : SG X t P target tg) (hs : swapsWithSole [target] a pos.line X.env = pure false := by rfl) (hw : swappedStores [target] a X.env = pure none := by rfl) (h1 : (assignEach [target] X.env).map (·.2) = [assign target X.env] := by rfl) : SS X t W P (.Assign [target] a pos) (sUnp tg ma) := by
  refine PS.imp (ps_asg he hg hs hw h1) fun D σ H ⟨e, H0, Fr, as, rp, po⟩ => ?_
  refine ⟨e, H0, Fr, as, rp, PoS.of po fun r e1 v H1 H' s rr po => ?_⟩
  obtain ⟨d, e2, H2, as2, q, s2, rp2, hd, po⟩ := PoS.leak po rr
  obtain ⟨e3, q3, po⟩ := PoS.ofOS po
  exact ⟨e2, H2, Fr, as2, d, e3, rp2, hd, q3, fun σ' as' p rp' => po σ' H2 H' as' (Same.refl _) p rp'⟩
/-! ### loops -/
/-- items, walked -/
def WkD (c : Cn) (H1 : Hp) (J : It) (items : List D) : Prop := ∃ (G : Hp → Prop) (Y : Nat → Hp → V → Hp → Prop), Walk J items.length G Y ∧ (∀ H2 H', Same H1 H2 → Same H2 H' → G H') ∧
  ∀ i H2 H' x H'', i < items.length → Same H1 H2 → Same H2 H' → Y i H' x H'' → ∃ d, items[i]? = some d ∧ ((H'' = H' ∧ Dat c H2 d x) ∨ ∃ p o, x = .ref p ∧ H' p = none ∧ H'' = upd H' p o ∧ Dat c (upd H2 p o) d x)
def rrI (c : Cn) : Hp → St → Hp → Hp → Env → It → List D → Prop := fun Fr σ H1 H' e J items => (∃ as, Rp c H1 Fr H' σ e as) ∧ WkD c H1 J items
def tIt (t : Tb) (c : Cn) (W : WX) (m : M (List D)) : TI := fun σ H Rr => tG t c W (rrI c) m σ H Rr
abbrev SI (X : Cx) (t : Tb) (W : WX) (tg it : Expr) (m : M (List D)) : Prop := PI X tg it (tIt t (cn X t) W m)
theorem PI.imp {X : Cx} {tg it : Expr} {u u' : TI} (h : PI X tg it u) (k : ∀ σ H Q, u' σ H Q → u σ H Q) : PI X tg it u' := ⟨fun pins s σ H R I q => h.run pins s σ H R I (k _ _ _ q)⟩
/-- the item of a turn -/
theorem wk_item {c : Cn} {H1 H2 Fr H' H'' : Hp} {items : List D} {σ : St} {e : Env} {as : Nat → List Addr} {i : Nat} {x : V} {G : Hp → Prop} {Y : Nat → Hp → V → Hp → Prop}
    (hy : ∀ i H2 H' x H'', i < items.length → Same H1 H2 → Same H2 H' → Y i H' x H'' → ∃ d, items[i]? = some d ∧ ((H'' = H' ∧ Dat c H2 d x) ∨ ∃ p o, x = .ref p ∧ H' p = none ∧ H'' = upd H' p o ∧ Dat c (upd H2 p o) d x))
    (hi : i < items.length) (s : Same H1 H2) (rp : Rp c H2 Fr H' σ e as) (y : Y i H' x H'') : ∃ d H3, items[i]? = some d ∧ Same H2 H3 ∧ Rp c H3 Fr H'' σ e as ∧ Dat c H3 d x := by
  obtain ⟨d, e1, q⟩ := hy i H2 H' x H'' hi s rp.sub y
  rcases q with ⟨rfl, hd⟩ | ⟨p, o, rfl, hp, rfl, hd⟩
  · exact ⟨d, H2, e1, Same.refl _, rp, hd⟩
  · exact ⟨d, _, e1, (rp.alloc hp).1, (rp.alloc hp).2, hd⟩
theorem drop_cons {α : Type} {l : List α} {i : Nat} {d : α} (h : l[i]? = some d) : l.drop i = d :: l.drop (i + 1) := by
  obtain ⟨h1, h2⟩ := List.getElem?_eq_some_iff.mp h
  rw [List.drop_eq_getElem_cons h1, h2]
theorem ss_for {target it : Expr} {body : List Stmt} {tg : Tg} {mi : M (List D)} {mb : MS} (hp : PassesOwn (model X.prog X.w) X.A X.env X.xe) (hc : X.calm = true) (hi : SI X t W target it mi) (hg : SG X t P target tg) (hb : SSs X t W P body mb)
    (hs : ∀ x, foldedSetIterable it X.env x = pure x := by intro _; rfl) : SS X t W P (.For target it body [] pos) (sFor tg mi mb) := by
  refine PS.imp (ps_for hp hc hi hg hb hs) fun D σ H ⟨e, H0, Fr, as, rp, po⟩ => ?_
  refine ⟨e, H0, Fr, as, rp, PoS.of po fun items e1 J H1 H' s ⟨⟨as1, rp1⟩, G, Y, wk, hG, hY⟩ po => ?_⟩
  refine for_it wk (fun i σ' H'' => ∃ e' H2 as', Same H1 H2 ∧ Prot P σ σ' ∧ Rp (cn X t) H2 Fr H'' σ' e' as' ∧ PoS t (cn X t) W P Fr σ H1 D (forL tg mb (items.drop i) e'))
    ⟨e1, H1, as1, Same.refl _, Prot.refl, rp1, by simpa using po⟩ (fun i σ' H'' _ ⟨e', H2, as', s2, _, rp2, _⟩ => hG H2 H'' s2 rp2.sub) ?_ ?_
  · rintro i x σ' H2' H3' hi ⟨e', H2, as', s2, p2, rp2, po2⟩ y
    obtain ⟨d, H3, e3, s3, rp3, hd⟩ := wk_item (G := G) hY hi s2 rp2 y
    rw [drop_cons e3] at po2
    have po2 : PoS t (cn X t) W P Fr σ H1 D (match tg.put d e' with
      | some e1 => (match mb e1 with
        | .nx e2 => forL tg mb (items.drop (i + 1)) e2
        | .ct e2 => forL tg mb (items.drop (i + 1)) e2
        | .bk e2 => .nx e2
        | r => r)
      | none => .bad) := po2
    cases q : tg.put d e' with
    | none =>
      rw [q] at po2
      exact po2.elim
    | some e2 =>
      rw [q] at po2
      have po2 : PoS t (cn X t) W P Fr σ H1 D (match mb e2 with
        | .nx e2 => forL tg mb (items.drop (i + 1)) e2
        | .ct e2 => forL tg mb (items.drop (i + 1)) e2
        | .bk e2 => .nx e2
        | r => r) := po2
      refine ⟨e', H3, Fr, as', d, e2, rp3, hd, q, fun σ2 as2 p3 rp4 => ⟨e2, H3, Fr, as2, rp4, ?_⟩⟩
      have s13 : Same H1 H3 := s2.trans s3
      have p13 : Prot P σ σ2 := p2.trans p3
      cases q2 : mb e2 with
      | nx e5 =>
        rw [q2] at po2
        exact fun σ3 H4 H4' as4 s4 p4 rp5 => ⟨e5, H4, as4, s13.trans s4, p13.trans p4, rp5, po2⟩
      | ct e5 =>
        rw [q2] at po2
        exact fun σ3 H4 H4' as4 s4 p4 rp5 => ⟨e5, H4, as4, s13.trans s4, p13.trans p4, rp5, po2⟩
      | bk e5 =>
        rw [q2] at po2
        exact fun σ3 H4 H4' as4 s4 p4 rp5 => po2 σ3 H4 H4' as4 (s13.trans s4) (p13.trans p4) rp5
      | rt o e5 =>
        rw [q2] at po2
        exact fun v σ3 H4 H4' s4 p4 rp5 => po2 v σ3 H4 H4' (s13.trans s4) (p13.trans p4) rp5
      | ex k p e5 =>
        rw [q2] at po2
        exact fun σ3 H4 H4' as4 cls dx s4 p4 rp5 xa => po2 σ3 H4 H4' as4 cls dx (s13.trans s4) (p13.trans p4) rp5 xa
      | bad =>
        rw [q2] at po2
        exact po2
  · rintro σ' H2' ⟨e', H2, as', s2, p2, rp2, po2⟩
    rw [List.drop_length] at po2
    exact po2 σ' H2 H2' as' s2 p2 rp2
theorem ss_while {cnd : Expr} {body : List Stmt} {mc : M Bool} {mb : MS} (n : Nat) (hp : PassesOwn (model X.prog X.w) X.A X.env X.xe) (hc : SB X t W cnd mc) (hb : SSs X t W P body mb) : SS X t W P (.While cnd body [] pos) (sWhile n mc mb) := by
  refine PS.imp (ps_while hp hc hb) fun D σ H ⟨e, H0, Fr, as, rp, po⟩ => ?_
  refine ⟨fun k σ' H' => ∃ e' H2 as', Same H0 H2 ∧ Prot P σ σ' ∧ Rp (cn X t) H2 Fr H' σ' e' as' ∧ PoS t (cn X t) W P Fr σ H0 D (whL mc mb k e'), ⟨n, e, H0, as, Same.refl _, Prot.refl, rp, po⟩, ?_⟩
  rintro k σ' H' ⟨e', H2, as', s2, p2, rp2, po2⟩
  cases k with
  | zero => exact po2.elim
  | succ k =>
    have po2 : PoS t (cn X t) W P Fr σ H0 D (match mc e' with
      | .ok true e1 => (match mb e1 with
        | .nx e2 => whL mc mb k e2
        | .ct e2 => whL mc mb k e2
        | .bk e2 => .nx e2
        | r => r)
      | .ok false e1 => .nx e1
      | .ex k p e1 => .ex k p e1
      | .bad => .bad) := po2
    refine ⟨e', H2, Fr, as', rp2, ?_⟩
    cases q : mc e' with
    | bad =>
      rw [q] at po2
      exact po2
    | ex j p e1 =>
      rw [q] at po2
      exact fun H3 H3' as3 cls dx s3 rp3 xa => po2 σ' H3 H3' as3 cls dx (s2.trans s3) p2 rp3 xa
    | ok b e1 =>
      rw [q] at po2
      rintro b' H3 H3' s3 ⟨rfl, as3, rp3⟩
      cases b' with
      | false => exact po2 σ' H3 H3' as3 (s2.trans s3) p2 rp3
      | true =>
        have po2 : PoS t (cn X t) W P Fr σ H0 D (match mb e1 with
          | .nx e2 => whL mc mb k e2
          | .ct e2 => whL mc mb k e2
          | .bk e2 => .nx e2
          | r => r) := po2
        refine ⟨fun σ2 H2' => ∃ e' H2 as', Same H0 H2 ∧ Prot P σ σ2 ∧ Rp (cn X t) H2 Fr H2' σ2 e' as' ∧ PoS t (cn X t) W P Fr σ H0 D (whL mc mb k e'), fun σ2 H2' h => ⟨k, Nat.lt_succ_self k, h⟩, ⟨e1, H3, Fr, as3, rp3, ?_⟩⟩
        have s03 : Same H0 H3 := s2.trans s3
        cases q2 : mb e1 with
        | nx e5 =>
          rw [q2] at po2
          exact fun σ3 H4 H4' as4 s4 p4 rp5 => ⟨e5, H4, as4, s03.trans s4, p2.trans p4, rp5, po2⟩
        | ct e5 =>
          rw [q2] at po2
          exact fun σ3 H4 H4' as4 s4 p4 rp5 => ⟨e5, H4, as4, s03.trans s4, p2.trans p4, rp5, po2⟩
        | bk e5 =>
          rw [q2] at po2
          exact fun σ3 H4 H4' as4 s4 p4 rp5 => po2 σ3 H4 H4' as4 (s03.trans s4) (p2.trans p4) rp5
        | rt o e5 =>
          rw [q2] at po2
          exact fun v σ3 H4 H4' s4 p4 rp5 => po2 v σ3 H4 H4' (s03.trans s4) (p2.trans p4) rp5
        | ex k p e5 =>
          rw [q2] at po2
          exact fun σ3 H4 H4' as4 cls dx s4 p4 rp5 xa => po2 σ3 H4 H4' as4 cls dx (s03.trans s4) (p2.trans p4) rp5 xa
        | bad =>
          rw [q2] at po2
          exact po2
end
end F
end

section
set_option Elab.async false
set_option linter.all false
set_option autoImplicit false
set_option maxRecDepth 100000
/-! F layer, part F: comprehensions, things changed in place, defs. -/
namespace F
open PySem PySem.Spec PyProof.Rows L2
section
variable {c : Cn} {H0 Fr H : Hp} {σ : St} {e : Env} {as : Nat → List Addr}
/-- a thing of the frame is changed -/
theorem Rp.frUpd (r : Rp c H0 Fr H σ e as) {p : Addr} {o x : HO} (h : Fr p = some o) : Rp c H0 (upd Fr p x) (upd H p x) σ e as := by
  obtain ⟨h1, h2⟩ := r.fr p o h
  have nas : ∀ {i a}, a ∈ as i → a ≠ p := fun {i a} ha z => by
    have := (r.off i a ha).2
    rw [z, h] at this
    cases this
  refine ⟨r.len, fun b y hb => by rw [upd_ne (ne_of_none hb h2)]; exact r.sub b y hb, fun b y hb => ?_, fun i o' q => ?_, fun i a ha => ⟨(r.off i a ha).1, by rw [upd_ne (nas ha)]; exact (r.off i a ha).2⟩, r.sep, r.nd, r.emp, r.tab.re (Same.refl _) (fun q hq => upd_ne fun z => by have := r.tab.nF q hq; rw [z, h] at this; cases this) r.tab.n0 (fun q hq => by rw [upd_ne fun z => by have := r.tab.nF q hq; rw [z, h] at this; cases this]; exact r.tab.nF q hq) r.tab.na⟩
  · by_cases z : b = p
    · subst z
      rw [upd_same] at hb ⊢
      exact ⟨hb, h2⟩
    · rw [upd_ne z] at hb ⊢
      exact r.fr b y hb
  · obtain ⟨v, h3, h4⟩ := r.own i o' q
    exact ⟨v, h3, OwnR.mono (fun _ _ z => z) o' v _ (fun a ha => upd_ne (nas ha)) h4⟩
/-- a new object that goes to the frame -/
theorem Rp.frNew (r : Rp c H0 Fr H σ e as) {p : Addr} {x : HO} (hp : H p = none) : Rp c H0 (upd Fr p x) (upd H p x) σ e as := by
  have h0 : H0 p = none := by
    cases q : H0 p with
    | none => rfl
    | some y =>
      rw [r.sub p y q] at hp
      cases hp
  have sH : Same H (upd H p x) := fun b o e => by rw [upd_ne (ne_of_none e hp)]; exact e
  have r2 := r.heap sH
  refine ⟨r2.len, r2.sub, fun b o hb => ?_, r2.own, fun i a ha => ⟨(r.off i a ha).1, ?_⟩, r2.sep, r2.nd, r2.emp, r2.tab.re (Same.refl _) (fun _ _ => rfl) r2.tab.n0 (fun q hq => by rw [upd_ne (r.tab.ne hq hp)]; exact r2.tab.nF q hq) r2.tab.na⟩
  · by_cases z : b = p
    · subst z
      rw [upd_same] at hb ⊢
      exact ⟨hb, h0⟩
    · rw [upd_ne z] at hb
      exact r2.fr b o hb
  · obtain ⟨y, hy⟩ := r.here ha
    rw [upd_ne (ne_of_none hy hp)]
    exact (r.off i a ha).2
/-- own slots are wiped -/
theorem wipe_len (e : Env) : ∀ own : List Nat, ∀ e : Env, (wipeE e own).length = e.length
  | [], e => rfl
  | i :: is, e => by
    unfold wipeE
    rw [wipe_len e is]
    simp
theorem wipe_slot : ∀ {own : List Nat} {e : Env} {i : Nat} {o : O}, slot (wipeE e own) i = some o → i ∉ own ∧ slot e i = some o
  | [], e, i, o, h => ⟨by simp, h⟩
  | j :: js, e, i, o, h => by
    obtain ⟨h1, h2⟩ := wipe_slot (own := js) (e := e.set j none) h
    obtain ⟨h3, h4⟩ := slot_none h2
    exact ⟨by simp [h1, h3], h4⟩
theorem wipe_get {σ : St} {i : Nat} : ∀ {vs : List Nat}, i ∉ vs → (wipe σ vs)[i]? = σ[i]?
  | [], _ => rfl
  | v :: vs, h => by
    unfold wipe
    rw [List.getElem?_set_ne fun z => h (by simp [z])]
    exact wipe_get fun z => h (by simp [z])
theorem Rp.wipe (r : Rp c H0 Fr H σ e as) (own : List Nat) : ∃ as', Rp c H0 Fr H (L2.wipe σ own) (wipeE e own) as' := by
  refine r.re (by rw [wipe_len e, wipe_length]; exact r.len) id (fun i o q => ?_) (fun i j _ _ _ _ h => h)
  obtain ⟨h1, h2⟩ := wipe_slot q
  exact ⟨h2, wipe_get h1⟩
/-- behind a comprehension -/
theorem Rp.unwipe {e0 : Env} {H1 : Hp} : ∀ {own is : List Nat} {e : Env} {as : Nat → List Addr}, Rp c H0 Fr H σ e as → (∀ i d, slot e0 i = some (.sh d) → ∃ v, σ[i]? = some (some v) ∧ Dat c H0 d v) → ∃ as', Rp c H0 Fr H σ (unwipe e0 e is) as'
  | own, [], e, as, r, h => ⟨as, r⟩
  | own, i :: is, e, as, r, h => by
    unfold F.unwipe
    split
    · rename_i d q
      obtain ⟨v, h1, h2⟩ := h i d q
      have r2 := r.setSh (i := i) h2
      have hs : σ.set i (some v) = σ := by
        apply List.ext_getElem?
        intro j
        by_cases z : i = j
        · subst z
          rw [List.getElem?_set_self (List.getElem?_eq_some_iff.mp h1).1, h1]
        · rw [List.getElem?_set_ne z]
      rw [hs] at r2
      exact Rp.unwipe (own := own) (H1 := H1) r2 h
    · exact Rp.unwipe (own := own) (H1 := H1) r h
end
abbrev W0 : WX := fun _ _ _ _ => False
abbrev STs (X : Cx) (t : Tb) (ifs : List Expr) (m : M Bool) : Prop := PTs X ifs (tG t (cn X t) W0 (rrB (cn X t)) m)
theorem sts_nil {X : Cx} {t : Tb} : STs X t [] mYes := by
  refine ⟨fun pins s σ H Q I ⟨e, H0, Fr, as, rp, po⟩ => pts_nil.run pins s σ H Q I ?_⟩
  exact po true H0 H (Same.refl _) ⟨rfl, as, rp⟩
theorem sts_one {X : Cx} {t : Tb} {c : Expr} {m : M Bool} (h : SB X t W0 c m) : STs X t [c] m := pts_one h
theorem wipe_in {σ : St} : ∀ {vs : List Nat} {i : Nat}, i ∈ vs → i < σ.length → (L2.wipe σ vs)[i]? = some none
  | [], _, h, _ => by cases h
  | v :: vs, i, h, hl => by
    show ((L2.wipe σ vs).set v none)[i]? = some none
    by_cases z : v = i
    · subst z
      exact List.getElem?_set_self (by rw [wipe_length]; exact hl)
    · rw [List.getElem?_set_ne z]
      rcases List.mem_cons.mp h with e | e
      · exact absurd e.symm z
      · exact wipe_in e hl
theorem wipe_eq {σ σ2 : St} {own : List Nat} (h : Prot (fun i => !own.contains i) (L2.wipe σ own) σ2) : L2.wipe σ2 own = L2.wipe σ own := by
  have hl : σ2.length = σ.length := by rw [h.1, wipe_length]
  apply List.ext_getElem?
  intro i
  by_cases hi : i ∈ own
  · by_cases hlt : i < σ.length
    · rw [wipe_in hi hlt, wipe_in hi (by omega)]
    · rw [List.getElem?_eq_none (by rw [wipe_length]; omega), List.getElem?_eq_none (by rw [wipe_length]; omega)]
  · rw [wipe_get hi, h.2 i (by simpa using hi)]
section
variable {X : Cx} {t : Tb} {W : WX}
theorem lc_read {mi : M (List D)} {own : List Nat} {tg : Tg} {mc : M Bool} {mv : M R} {σ : St} {H : Hp} {Q : VK} (q : tI X t W (mLc own tg mi mc mv) σ H Q) :
    tLc (tIt t (cn X t) W mi) (tGt (cn X t) (fun i => !own.contains i) tg) (tG t (cn X t) W0 (rrB (cn X t)) mc) (tI X t W0 mv) own σ H Q := by
  obtain ⟨e, H0, Fr, as, rp, po⟩ := q
  refine ⟨e, H0, Fr, as, rp, po.bind fun items e1 J H1 H' s ⟨⟨as1, rp1⟩, G, Y, wk, hG, hY⟩ po => ?_⟩
  intro L hL
  by_cases hlim : items.length ≤ lim
  case neg =>
    rw [if_neg hlim] at po
    exact po.elim
  rw [if_pos hlim] at po
  have h1L : H1 L = none := by
    cases z : H1 L with
    | none => rfl
    | some y =>
      rw [rp1.sub L y z] at hL
      cases hL
  have hFL : Fr L = none := by
    cases z : Fr L with
    | none => rfl
    | some y =>
      rw [(rp1.fr L y z).1] at hL
      cases hL
  -- what is kept of the names' shared data
  have old : ∀ i d, slot e1 i = some (.sh d) → ∃ v, σ[i]? = some (some v) ∧ Dat (cn X t) H1 d v := fun i d z => by
    obtain ⟨v, h1, h2⟩ := rp1.own i _ z
    exact ⟨v, h1, h2.2⟩
  obtain ⟨as0, rp0⟩ := rp1.wipe own
  refine lc_it wk (fun i H'' => ∃ (e' : Env) (H2 : Hp) (as' : Nat → List Addr) (acc : List D) (ws : List V), Same H1 H2 ∧ Rp (cn X t) H2 (upd Fr L (.lst ws)) H'' (L2.wipe σ own) e' as' ∧ Dats (cn X t) H2 acc ws ∧ acc.length ≤ i ∧
      Po t (cn X t) W Fr σ H1 (rrR (cn X t) Fr σ) Q (lcEnd e1 own (lcL own tg mc mv (items.drop i) acc e'))) ⟨wipeE e1 own, H1, as0, [], [], Same.refl _, rp0.frNew hL, rfl, Nat.le_refl _, by simpa using po⟩ (fun i H'' _ ⟨e', H2, as', acc, ws, s2, rp2, _⟩ => hG H2 H'' s2 rp2.sub) ?_ ?_
  · rintro i x Hi Hx hi ⟨e', H2, as', acc, ws, s2, rp2, hacc, hlen, po2⟩ y
    obtain ⟨d, H3, e3, s3, rp3, hd⟩ := wk_item (G := G) hY hi s2 rp2 y
    rw [drop_cons e3] at po2
    unfold lcL at po2
    cases q : tg.put d e' with
    | none =>
      rw [q] at po2
      exact po2.elim
    | some e2 =>
      rw [q] at po2
      dsimp only at po2
      refine ⟨e', H3, upd Fr L (.lst ws), as', d, e2, rp3, hd, q, fun σ2 as2 p3 rp4 => ?_⟩
      have hw := wipe_eq p3
      refine ⟨hw, e2, H3, upd Fr L (.lst ws), as2, rp4, ?_⟩
      cases qc : mc e2 with
      | bad =>
        rw [qc] at po2
        exact po2.elim
      | ex _ _ _ =>
        rw [qc] at po2
        exact po2.elim
      | ok b e4 =>
        rw [qc] at po2
        rintro b' H4 H4' s4 ⟨rfl, as4, rp4⟩
        cases b' with
        | false =>
          dsimp only at po2
          rw [if_neg Bool.false_ne_true]
          obtain ⟨as5, rp5⟩ := rp4.wipe own
          rw [hw] at rp5
          exact ⟨_, H4, as5, acc, ws, (s2.trans s3).trans s4, rp5, Dats.mono (s3.trans s4) _ _ hacc, by omega, po2⟩
        | true =>
          dsimp only at po2
          rw [if_pos rfl]
          refine ⟨e4, H4, upd Fr L (.lst ws), as4, rp4, ?_⟩
          cases qv : mv e4 with
          | bad =>
            rw [qv] at po2
            exact po2.elim
          | ex _ _ _ =>
            rw [qv] at po2
            exact po2.elim
          | ok r e5 =>
            rw [qv] at po2
            dsimp only at po2
            intro v H5 H5' s5 rr
            rcases leak_ok (e' := e5) rr with ⟨d6, e6, ql⟩ | ql
            · rw [ql] at po2
              dsimp only at po2
              obtain ⟨H6, as6, s6, rp6, hd6⟩ := RpR.leak rr ql
              have hL6 : H5' L = some (.lst ws) := (rp6.fr L _ upd_same).1
              have hwl : ws.length = acc.length := hacc.len
              have hz : sizeLine = lim := sizeLine_lim
              refine ⟨ws, hL6, by omega, ?_⟩
              obtain ⟨as7, rp7⟩ := rp6.wipe own
              rw [hw] at rp7
              have rp8 := rp7.frUpd (p := L) (x := .lst (ws ++ [v])) upd_same
              rw [upd_upd] at rp8
              have s26 : Same H2 H6 := ((s3.trans s4).trans s5).trans s6
              exact ⟨_, H6, as7, acc ++ [d6], ws ++ [v], s2.trans s26, rp8, Dats.app (Dats.mono s26 _ _ hacc) (Dats.one hd6), by simp; omega, po2⟩
            · rw [ql] at po2
              exact po2.elim
  · rintro H'' ⟨e', H2, as', acc, ws, s2, rp2, hacc, hlen, po2⟩
    rw [List.drop_length] at po2
    have po2 : Po t (cn X t) W Fr σ H1 (rrR (cn X t) Fr σ) Q (.ok (.ow (.fl acc)) (unwipe e1 e' own)) := po2
    have rp3 : Rp (cn X t) H2 (upd Fr L (.lst ws)) H'' σ e' as' := by
      refine rp2.other (by rw [wipe_length]) fun i o q => ?_
      obtain ⟨v, h1, _⟩ := rp2.own i o q
      rw [(wipe_some h1).1, h1]
    obtain ⟨as4, rp4⟩ := rp3.unwipe (e0 := e1) (own := own) (H1 := H1) (is := own) fun i d z => by
      obtain ⟨v, h1, h2⟩ := old i d z
      exact ⟨v, h1, Dat.mono s2 _ _ h2⟩
    refine po2 (.ref L) H2 H'' s2 ⟨[L], as4, ⟨?_, L, ws, rfl, rfl, ?_, hacc⟩, by simp, fun a ha => ?_, ?_⟩
    · omega
    · exact (rp2.fr L _ upd_same).1
    · rw [List.mem_singleton.mp ha]
      exact ⟨(rp2.fr L _ upd_same).2, hFL⟩
    · have hF : addF Fr H'' [L] = upd Fr L (.lst ws) := by
        funext b
        by_cases z : b = L
        · subst z
          rw [addF_in (by simp), upd_same]
          exact (rp2.fr b _ upd_same).1
        · rw [addF_out (by simpa using z), upd_ne z]
      rw [hF]
      exact rp4
variable {elt target iter : Expr} {ifs : List Expr} {scope : Scope} {own : List (Str × Nat)} {pos spos py : Pos} {tg : Tg} {mi : M (List D)} {mc : M Bool} {mv : M R} {P : Nat → Bool}
abbrev Blk (X : Cx) (scope : Scope) (s : Shared) (H : Hp) (C : Addr) (cl : List (Str × Addr)) (fp : List Addr) : Cx := X.blk s H scope (compEnvC scope cl C X.env) fp
theorem se_lc (hc : X.calm = true) (hN : X.N.Nodup) (hi : SI X t W target iter mi) (ok : BlkOk X.N X.env.scope scope own)
    (hg : ∀ s H C cl fp, SG (Blk X scope s H C cl fp) t (fun i => !(own.map (·.2)).contains i) target tg) (ht : ∀ s H C cl fp, STs (Blk X scope s H C cl fp) t ifs mc)
    (he : ∀ s H C cl fp, SE (Blk X scope s H C cl fp) t W0 elt mv) (hs : ∀ x, foldedSetIterable iter X.env x = pure x := by intro _; rfl) :
    SE X t W (.ListComp elt [⟨target, iter, ifs, 0⟩] scope pos) (mLc (own.map (·.2)) tg mi mc mv) :=
  PE.imp (pe_lc (own := own) hc hN hi ok hg ht he hs) fun _ _ _ q => lc_read q
theorem ss_setLc {i : Nat} {y : Str} (hP : P i = false) (hc : X.calm = true) (hN : X.N.Nodup) (hy : X.N[i]? = some y) (hyl : X.env.scope.names.lookup y = some .local)
    (hsw : swapsWith (.ListComp elt [⟨target, iter, ifs, 0⟩] scope pos) (some (.Name y py)) spos.line X.env = pure true) (hi : SI X t W target iter mi) (ok : BlkOk X.N X.env.scope scope own)
    (hg : ∀ s H C cl fp, SG (Blk X scope s H C cl fp) t (fun i => !(own.map (·.2)).contains i) target tg) (ht : ∀ s H C cl fp, STs (Blk X scope s H C cl fp) t ifs mc)
    (he : ∀ s H C cl fp, SE (Blk X scope s H C cl fp) t W0 elt mv) (hs : ∀ x, foldedSetIterable iter X.env x = pure x := by intro _; rfl) :
    SS X t W P (.Assign [.Name y py] (.ListComp elt [⟨target, iter, ifs, 0⟩] scope pos) spos) (sSet i (mLc (own.map (·.2)) tg mi mc mv)) := by
  refine PS.imp (ps_setLc (own := own) (g := tGt (cn X t) (fun i => !(own.map (·.2)).contains i) tg) (tt := tG t (cn X t) W0 (rrB (cn X t)) mc) (te := tI X t W0 mv) hc hN hy hyl hsw hi ok hg ht he hs) fun D σ H ⟨e, H0, Fr, as, rp, po⟩ => ?_
  exact lc_read (t := t) ⟨e, H0, Fr, as, rp, PoS.of po fun r e1 v H1 H' s rr po => set_ok hP rr po⟩
end
/-! ### things changed in place -/
section
variable {X : Cx} {t : Tb} {W : WX} {P : Nat → Bool} {a b k v : Expr} {ma mb mk mv : M R} {pos apos cpos p1 : Pos} {i : Nat}
/-- a name's own list, at its address -/
theorem Rp.lst {c : Cn} {H0 Fr H : Hp} {σ : St} {e : Env} {as : Nat → List Addr} (r : Rp c H0 Fr H σ e as) {i : Nat} {l : List D} (q : slot e i = some (.fl l)) {v : V} (hv : σ[i]? = some (some v)) :
    l.length ≤ lim ∧ ∃ p vs, v = .ref p ∧ H p = some (.lst vs) ∧ Dats c H0 l vs ∧
      ∀ l' vs', l'.length ≤ lim → Dats c H0 l' vs' → Rp c H0 Fr (upd H p (.lst vs')) σ (e.set i (some (.fl l'))) as := by
  obtain ⟨w, h1, hl, p, vs, h2, h3, h4, h5⟩ := r.own i _ q
  rw [hv] at h1
  cases h1
  refine ⟨hl, p, vs, h2, h4, h5, fun l' vs' hl' hd => r.mut q h3 fun w hw _ => ?_⟩
  rw [hv] at hw
  cases hw
  exact ⟨hl', p, vs', h2, rfl, upd_same, hd⟩
def MOp1 (c : Cn) (r : V → List V → Hp → VK → Prop) (f : List D → D → Option (D × List D)) : Prop := ∀ (H0 H : Hp) (p : Addr) (l : List D) (vs : List V) (x d : D) (y : V) (l' : List D) (Q : VK), Same H0 H → f l x = some (d, l') → l.length ≤ lim → H p = some (.lst vs) → Dats c H0 l vs → Dat c H0 x y →
  (∀ z vs', l'.length ≤ lim → Dats c H0 l' vs' → Dat c H0 d z → Q z (upd H p (.lst vs'))) → r (.ref p) [y] H Q
theorem tyV_lst {K : PySem.W.Frag} {H : Hp} {p : Addr} {vs : List V} (h : H p = some (.lst vs)) : tyV K "list" (.ref p) H := Or.inl ⟨rfl, vs, SqL.of h⟩
theorem se_mut1 {x name : Str} {id : String} {r : V → List V → Hp → VK → Prop} {f : List D → D → Option (D × List D)} (slot : Slot "list" name id) (hty : typeOf (.builtin id) = pure (.type "method_descriptor")) (hm : MtR X id r) (hr : MOp1 (cn X t) r f) (ho : PE X (.Name x p1) (tVar i)) (ha : SE X t W a ma)
    (hs1 : starEach (a :: []) X.env = (false, eval a X.env) :: starEach [] X.env := by rfl)
    (hbase : attributeBase (.Name x p1) name X.env (eval (.Name x p1) X.env) = eval (.Name x p1) X.env := by rfl)
    (hfew : ((backTo cpos (starEach (a :: []) X.env)).all (fun x => !x.1) && (backToKw cpos (keywordEach [] X.env)).all (fun x => x.1.isSome)
      && decide ((a :: []).length + ([] : List Keyword).length + (if ([] : List Keyword).isEmpty then 0 else 1) < 30)) = true := by rfl)
    (hline : (apos.endLine == cpos.line) = true := by rfl) (hs : starEach (a :: []) X.env = (false, eval a X.env) :: starEach [] X.env := by rfl) (hplain : (backTo cpos (starEach [] X.env)).any (·.1) = false := by rfl) :
    SE X t W (.Call (.Attribute (.Name x p1) name apos) [a] [] cpos) (mMut1 i f ma) := by
  refine PE.imp (pe_bm PySem.F.plainAttrs_list slot hty hm ho (pa_cons ha pa_nil hs1) hbase hfew hline hs hplain) fun σ H Q ⟨e, H0, Fr, as, rp, po⟩ => ?_
  have po : Po t (cn X t) W Fr σ H0 (rrR (cn X t) Fr σ) Q (match F.slot e i with
    | some (.fl _) => andThen (ma e) fun r e1 => andThen (leak r e1) fun d e2 => (match F.slot e2 i with
      | some (.fl l) => ofO (f l d) fun p => .ok (.d p.1) (e2.set i (some (.fl p.2)))
      | _ => .bad)
    | _ => .bad) := po
  split at po
  · rename_i l0 q0
    obtain ⟨w, h1, _⟩ := rp.own i _ q0
    obtain ⟨_, p, vs0, rfl, h2, _, _⟩ := rp.lst q0 h1
    refine ⟨_, h1, tyV_lst h2, e, H0, Fr, as, rp, po.bind fun ra e1 y H1 H' s rr po => ?_⟩
    obtain ⟨x, e2, H2, as2, ql, s2, rp2, hx, po⟩ := po.leak rr
    split at po
    · rename_i l q
      obtain ⟨hl, p', vs, e3, h3, h4, h5⟩ := rp2.lst q h1
      cases e3
      obtain ⟨pr, e4, po⟩ := po.ofO
      obtain ⟨d, l'⟩ := pr
      exact hr H2 H' p l vs x d y l' Q rp2.sub e4 hl h3 h4 hx fun z vs' hl' hd hz => po z H2 _ (Same.refl _) ⟨⟨as2, h5 l' vs' hl' hd⟩, hz⟩
    · exact po.elim
  · exact po.elim
theorem ss_sto {x : Str} (ho : PE X (.Name x p1) (tVar i)) (hk : SE X t W k mk) (hv : SE X t W v mv)
    (ha : ∀ v, assign (.Subscript (.Name x p1) k apos) X.env v = (do
      let ov ← holding [v] (eval (.Name x p1) X.env)
      let iv ← holding [v, ov] (eval k X.env)
      standAt apos
      holding [v, ov, iv] (setItem ov iv v)
      release [v, ov, iv] []) := by intro _; rfl) (hs : swapsWithSole [.Subscript (.Name x p1) k apos] v pos.line X.env = pure false := by rfl) (hw : swappedStores [.Subscript (.Name x p1) k apos] v X.env = pure none := by rfl)
    (h1 : (assignEach [.Subscript (.Name x p1) k apos] X.env).map (·.2) = [assign (.Subscript (.Name x p1) k apos) X.env] := by rfl) : SS X t W P (.Assign [.Subscript (.Name x p1) k apos] v pos) (sSto i mk mv) := by
  refine PS.imp (ps_asg hv (pg_sub ho hk set_list ha) hs hw h1) fun D σ H ⟨e, H0, Fr, as, rp, po⟩ => ?_
  refine ⟨e, H0, Fr, as, rp, PoS.of po fun r e1 y H1 H' s rr po => ?_⟩
  obtain ⟨d, e2, H2, as2, ql, s2, rp2, hd, po⟩ := PoS.leak po rr
  cases q0 : F.slot e2 i with
  | none =>
    rw [q0] at po
    exact po.elim
  | some o =>
    rw [q0] at po
    obtain ⟨w, hw, _⟩ := rp2.own i _ q0
    refine ⟨w, hw, e2, H2, Fr, as2, rp2, PoS.of po fun q e3 z H3 H'' s3 rr3 po => ?_⟩
    obtain ⟨j, q1, po⟩ := PoS.ofOS po
    obtain ⟨H4, as4, s4, rp4, hj⟩ := RpR.peek rr3 q1
    split at po
    · rename_i l j' q
      split at po
      · rename_i n qn
        obtain ⟨hl, p, vs, rfl, h3, h4, h5⟩ := rp4.lst q hw
        refine ⟨p, vs, j', n, rfl, hj, h3, by rw [h4.len]; exact qn, ?_⟩
        exact po σ H4 _ as4 s4 Prot.refl (h5 _ _ (by simpa using hl) (Dats.set (Dat.mono (s3.trans s4) _ _ hd) n h4))
      · exact po.elim
    · exact po.elim
/-- x op= e -/
def VIp (c : Cn) (r : TIp) (f : D → D → Option D) : Prop := ∀ (H0 H : Hp) (x y : V) (dx dy dz : D) (Q : VK), Same H0 H → f dx dy = some dz → Dat1 c H0 H dx x → Dat1 c H0 H dy y → Out c H0 H dz Q → r x y H Q
theorem ss_aug {x : Str} {pos' : Pos} {op : Operator} {r : TIp} {f : D → D → Option D} (hP : P i = false) (hN : X.N.Nodup) (hi : X.N[i]? = some x) (hx : Loc X.env.scope x) (he : SE X t W a ma) (ho : PIp X op r) (hr : VIp (cn X t) r f)
    (hf : X.fn x = true ∨ X.env.scope.names.lookup x = some .local := by first | exact .inl rfl | exact .inr rfl | assumption) : SS X t W P (.AugAssign (.Name x pos') op a pos) (sAug i f ma) := by
  refine PS.imp (ps_aug hN hi hx he ho hf) fun D σ H ⟨e, H0, Fr, as, rp, po⟩ => ?_
  have po : PoS t (cn X t) W P Fr σ H0 D (match F.slot e i with
    | some _ => sOf (ma e) fun r e1 => ofOS (peek (.sl i) e1) fun x => ofOS (peek r e1) fun y => ofOS (f x y) fun z => .nx (e1.set i (some (.sh z)))
    | none => .bad) := po
  cases q0 : F.slot e i with
  | none =>
    rw [q0] at po
    exact po.elim
  | some o =>
    rw [q0] at po
    obtain ⟨w, hw, _⟩ := rp.own i _ q0
    refine ⟨w, hw, e, H0, Fr, as, rp, PoS.of po fun q e1 y H1 H' s rr po => ?_⟩
    obtain ⟨dx, q1, po⟩ := PoS.ofOS po
    obtain ⟨dy, q2, po⟩ := PoS.ofOS po
    obtain ⟨dz, q3, po⟩ := PoS.ofOS po
    obtain ⟨H2, as2, s2, rp2, hy⟩ := RpR.peek rr q2
    refine hr H2 H' w y dx dy dz _ rp2.sub q3 (Kp.peek (r := .sl i) rp2 hw q1) hy ⟨fun z hz => ?_, fun p o hp hd => ?_⟩
    · exact po _ H2 H' _ s2 (Prot.set hP) (rp2.setSh hz)
    · exact po _ _ _ _ (s2.trans (rp2.alloc (x := o) hp).1) (Prot.set hP) ((rp2.alloc hp).2.setSh hd)
end
/-! ### several answers, new things left as they are -/
section
variable {c : Cn} {H0 Fr H : Hp} {σ : St} {e : Env}
def RpO (c : Cn) (H0 Fr H : Hp) (σ : St) (e : Env) (vs : List V) (os : List O) : Prop := ∃ bs as, OwnRs c H0 H os vs bs ∧ bs.Nodup ∧ (∀ a ∈ bs, H0 a = none ∧ Fr a = none) ∧ Rp c H0 (addF Fr H bs) H σ e as
def rrOs (c : Cn) : Hp → St → Hp → Hp → Env → List V → List O → Prop := fun Fr σ H1 H' e vs os => RpO c H1 Fr H' σ e vs os
/-- the first goes to a name -/
theorem RpO.set {v : V} {vs : List V} {o : O} {os : List O} {i : Nat} (r : RpO c H0 Fr H σ e (v :: vs) (o :: os)) : RpO c H0 Fr H (σ.set i (some v)) (e.set i (some o)) vs os := by
  obtain ⟨bs, as, ⟨v', r', b1, b2, e1, e2, h1, h2⟩, nd, off, rp⟩ := r
  cases e1
  subst e2
  have hd : ∀ a ∈ b1, a ∉ b2 := fun a ha hb => by
    have := (List.nodup_append.mp nd).2.2 a ha a hb
    exact this rfl
  have r1 : Rp1 c H0 (addF Fr H b2) H σ e v o := by
    refine ⟨b1, as, h1, (List.nodup_append.mp nd).1, fun a ha => ⟨(off a (List.mem_append_left _ ha)).1, ?_⟩, ?_⟩
    · rw [addF_out (hd a ha)]
      exact (off a (List.mem_append_left _ ha)).2
    · have : addF (addF Fr H b2) H b1 = addF Fr H (b1 ++ b2) := by
        funext a
        by_cases z1 : a ∈ b1
        · rw [addF_in z1, addF_in (List.mem_append_left _ z1)]
        · rw [addF_out z1]
          by_cases z2 : a ∈ b2
          · rw [addF_in z2, addF_in (List.mem_append_right _ z2)]
          · rw [addF_out z2, addF_out (by simp [z1, z2])]
      rw [this]
      exact rp
  obtain ⟨as2, rp2⟩ := r1.set (i := i)
  exact ⟨b2, as2, h2, (List.nodup_append.mp nd).2.1, fun a ha => off a (List.mem_append_right _ ha), rp2⟩
end
section
variable {X : Cx} {t : Tb} {W : WX} {P : Nat → Bool} {a b : Expr} {es : List Expr} {ma mb : M R} {ms : List (M R)} {pos : Pos}
abbrev SO (X : Cx) (t : Tb) (W : WX) (es : List Expr) (m : M (List O)) : Prop := PA X es (tG t (cn X t) W (rrOs (cn X t)) m)
theorem so_nil : SO X t W [] (mOs []) := by
  refine PA.imp pa_nil fun σ H Q ⟨e, H0, Fr, as, rp, po⟩ => ?_
  exact po [] H0 H (Same.refl _) ⟨[], as, ⟨rfl, rfl⟩, List.nodup_nil, by simp, by rw [addF_nil]; exact rp⟩
/-- one more ahead -/
theorem rpO_cons {c : Cn} {H0 H1 Fr H H' : Hp} {σ : St} {e1 : Env} {v : V} {o : O} {vs : List V} {os : List O} {b1 : List Addr} (h1 : OwnR c H0 H o v b1) (nd : b1.Nodup) (off : ∀ a ∈ b1, H0 a = none ∧ Fr a = none) (s : Same H0 H1)
    (r : RpO c H1 (addF Fr H b1) H' σ e1 vs os) : RpO c H1 Fr H' σ e1 (v :: vs) (o :: os) := by
  obtain ⟨b2, as, h2, nd2, off2, rp⟩ := r
  have here : ∀ a ∈ b1, ∃ x, H a = some x := OwnR.here o v b1 h1
  have hd : ∀ a ∈ b1, a ∉ b2 := fun a ha hb => by
    have := (off2 a hb).2
    rw [addF_in ha] at this
    obtain ⟨x, hx⟩ := here a ha
    rw [hx] at this
    cases this
  have keep : ∀ a ∈ b1, H' a = H a ∧ H1 a = none := fun a ha => by
    obtain ⟨x, hx⟩ := here a ha
    have := rp.fr a x (by rw [addF_out (hd a ha), addF_in ha]; exact hx)
    exact ⟨this.1.trans hx.symm, this.2⟩
  refine ⟨b1 ++ b2, as, ⟨v, vs, b1, b2, rfl, rfl, OwnR.mono s o v b1 (fun a ha => (keep a ha).1) h1, h2⟩, ?_, fun a ha => ?_, ?_⟩
  · exact List.nodup_append.mpr ⟨nd, nd2, fun a ha b hb z => hd a ha (z ▸ hb)⟩
  · rcases List.mem_append.mp ha with ha | ha
    · exact ⟨(keep a ha).2, (off a ha).2⟩
    · have := (off2 a ha).2
      rw [addF_out fun z => hd a z ha] at this
      exact ⟨(off2 a ha).1, this⟩
  · have : addF Fr H' (b1 ++ b2) = addF (addF Fr H b1) H' b2 := by
      funext a
      by_cases z2 : a ∈ b2
      · rw [addF_in z2, addF_in (List.mem_append_right _ z2)]
      · rw [addF_out z2]
        by_cases z1 : a ∈ b1
        · rw [addF_in z1, addF_in (List.mem_append_left _ z1)]
          exact (keep a z1).1
        · rw [addF_out z1, addF_out (by simp [z1, z2])]
    rw [this]
    exact rp
theorem so_cons (ha : SE X t W a ma) (hr : SO X t W es (mOs ms)) (hs : starEach (a :: es) X.env = (false, eval a X.env) :: starEach es X.env := by rfl) : SO X t W (a :: es) (mOs (ma :: ms)) := by
  refine PA.imp (pa_cons ha hr hs) fun σ H Q ⟨e, H0, Fr, as, rp, po⟩ => ?_
  have po : Po t (cn X t) W Fr σ H0 (rrOs (cn X t) Fr σ) Q (andThen (ma e) fun r e1 => match r with
    | .ow o => andThen (mOs ms e1) fun os e2 => .ok (o :: os) e2
    | r => andThen (leak r e1) fun d e2 => andThen (mOs ms e2) fun os e3 => .ok (.sh d :: os) e3) := po
  refine ⟨e, H0, Fr, as, rp, po.bind fun ra e1 v H1 H' s rr po => ?_⟩
  have sh : ∀ {r : R}, RpR (cn X t) H1 Fr H' σ e1 v r → Po t (cn X t) W Fr σ H1 (rrOs (cn X t) Fr σ) Q (andThen (leak r e1) fun d e2 => andThen (mOs ms e2) fun os e3 => .ok (.sh d :: os) e3) →
      tG t (cn X t) W (rrOs (cn X t)) (mOs ms) σ H' fun xs H2 => Q (v :: xs) H2 := fun {r} rr po => by
    obtain ⟨d, e2, H2, as2, ql, s2, rp2, hd, po⟩ := po.leak rr
    refine ⟨e2, H2, Fr, as2, rp2, po.bind fun os e3 vs H3 H'' s3 ro po => ?_⟩
    refine po (v :: vs) H3 H'' (Same.refl _) ?_
    exact rpO_cons (H := H') (b1 := []) ⟨rfl, hd⟩ List.nodup_nil (by simp) s3 (by rw [addF_nil]; exact ro)
  cases ra with
  | d x => exact sh rr po
  | sl i => exact sh rr po
  | ow o =>
    have po : Po t (cn X t) W Fr σ H1 (rrOs (cn X t) Fr σ) Q (andThen (mOs ms e1) fun os e2 => .ok (o :: os) e2) := po
    obtain ⟨b1, as2, h1, nd, off, rp2⟩ := rr
    refine ⟨e1, H1, addF Fr H' b1, as2, rp2, ?_⟩
    cases q : mOs ms e1 with
    | bad =>
      rw [q] at po
      exact po
    | ex k p e2 =>
      rw [q] at po
      exact fun H2 H'' as3 cls dx s3 rp3 xa => po H2 H'' as3 cls dx s3 (rp3.less fun b x hb => by
        rw [addF_out fun z => by
          rw [(off b z).2] at hb
          cases hb]
        exact hb) xa
    | ok os e2 =>
      rw [q] at po
      exact fun vs H2 H'' s3 ro => po (v :: vs) H2 H'' s3 (rpO_cons h1 nd off s3 ro)
theorem ss_par {i j : Nat} {x y : Str} {px py pt : Pos} {kt k2 : Nat} {pt2 : Pos} (hPi : P i = false) (hPj : P j = false) (hc : X.calm = true) (hN : X.N.Nodup) (hi : X.N[i]? = some x) (hj : X.N[j]? = some y) (hij : i ≠ j)
    (hx : X.env.scope.names.lookup x = some .local) (hy : X.env.scope.names.lookup y = some .local) (ha : SO X t W [a, b] (mOs [ma, mb]))
    (hw : swappedStores [.Tuple [.Name x px, .Name y py] kt pt] (.Tuple [a, b] k2 pt2) X.env = pure (some [x, y]))
    (hs : swapsWithSole [.Tuple [.Name x px, .Name y py] kt pt] (.Tuple [a, b] k2 pt2) pos.line X.env = pure false := by rfl) :
    SS X t W P (.Assign [.Tuple [.Name x px, .Name y py] kt pt] (.Tuple [a, b] k2 pt2) pos) (sPar [i, j] [ma, mb]) := by
  refine PS.imp (ps_par hc hN hi hj hij hx hy ha hw hs) fun D σ H ⟨e, H0, Fr, as, rp, po⟩ => ?_
  refine ⟨e, H0, Fr, as, rp, PoS.of po fun os e1 vs H1 H' s ro po => ?_⟩
  obtain ⟨e2, q, po⟩ := PoS.ofOS po
  match os, vs, ro, q with
  | [o1, o2], [v1, v2], ro, q =>
    cases q
    have r1 := RpO.set (i := i) ro
    have r2 := RpO.set (i := j) r1
    obtain ⟨bs, as3, ⟨_, hb⟩, _, _, rp3⟩ := r2
    subst hb
    rw [addF_nil] at rp3
    exact ⟨v1, v2, rfl, po _ H1 H' as3 (Same.refl _) ((Prot.set hPi).trans (Prot.set hPj)) rp3⟩
  | [], _, _, q => cases q
  | [_], _, _, q => cases q
  | _ :: _ :: _ :: _, _, _, q => cases q
  | [o1, o2], [], ro, q =>
    obtain ⟨_, _, ⟨_, _, _, _, h, _⟩, _⟩ := ro
    cases h
  | [o1, o2], [_], ro, q =>
    obtain ⟨_, _, ⟨_, _, _, _, h, _, _, ⟨_, _, _, _, h2, _⟩⟩, _⟩ := ro
    cases h
    cases h2
  | [o1, o2], _ :: _ :: _ :: _, ro, q =>
    obtain ⟨_, _, ⟨_, _, _, _, h, _, _, ⟨_, _, _, _, h2, _, _, ⟨h3, _⟩⟩⟩, _⟩ := ro
    cases h
    cases h2
    cases h3
/-! ### built-ins by values -/
def Dats1 (c : Cn) (H0 H : Hp) : List D → List V → Prop
  | [], vs => vs = []
  | d :: ds, vs => ∃ v r, vs = v :: r ∧ Dat1 c H0 H d v ∧ Dats1 c H0 H ds r
theorem Kps.peeks {c : Cn} {H0 Fr H : Hp} {σ : St} {e : Env} {as : Nat → List Addr} (rp : Rp c H0 Fr H σ e as) : ∀ {vs : List V} {rs : List R} {ds : List D}, Kps c H0 σ vs rs → peeks rs e = some ds → Dats1 c H0 H ds vs
  | [], rs, ds, h, q => by
    have h : rs = [] := h
    subst h
    cases q
    rfl
  | v :: vs, rs, ds, ⟨r, qs, h1, h2, h3⟩, q => by
    subst h1
    have q : (match peek r e, F.peeks qs e with
      | some x, some xs => some (x :: xs)
      | _, _ => none) = some ds := q
    cases q1 : peek r e with
    | none =>
      rw [q1] at q
      cases q
    | some x =>
      cases q2 : F.peeks qs e with
      | none =>
        rw [q1, q2] at q
        cases q
      | some xs =>
        rw [q1, q2] at q
        cases q
        exact ⟨v, vs, rfl, h2.peek rp q1, Kps.peeks rp h3 q2⟩
def CB (c : Cn) (r : List V → Hp → VK → Prop) (f : List D → Option D) : Prop := ∀ (H0 H : Hp) (xs : List V) (ds : List D) (dz : D) (Q : VK), Same H0 H → f ds = some dz → Dats1 c H0 H ds xs → Out c H0 H dz Q → r xs H Q
def CBl (c : Cn) (r : List V → Hp → VK → Prop) (f : List D → Option (List D)) : Prop := ∀ (H0 H : Hp) (xs : List V) (ds : List D) (l : List D) (Q : VK), Same H0 H → f ds = some l → Dats1 c H0 H ds xs → NewL c H0 H l Q → r xs H Q
theorem tI_bi {c : Cn} {r : List V → Hp → VK → Prop} {f : List D → Option D} (h : CB c r f) {σ : St} {H : Hp} {Q : VK} (q : tG t c W (rrR c) (mBi f ms) σ H Q) : tCB r (tG t c W (rrRs c) (mRs ms)) σ H Q := by
  obtain ⟨e, H0, Fr, as, rp, po⟩ := q
  refine ⟨e, H0, Fr, as, rp, po.bind fun rs e1 vs H1 H' s ⟨⟨as1, rp1⟩, ks⟩ po => ?_⟩
  obtain ⟨ds, q1, po⟩ := po.ofO
  obtain ⟨dz, q2, po⟩ := po.ofO
  exact h H1 H' vs ds dz Q rp1.sub q2 (ks.peeks rp1 q1) (po.out rp1)
theorem tI_bl {c : Cn} {r : List V → Hp → VK → Prop} {f : List D → Option (List D)} (h : CBl c r f) {σ : St} {H : Hp} {Q : VK} (q : tG t c W (rrR c) (mBl f ms) σ H Q) : tCB r (tG t c W (rrRs c) (mRs ms)) σ H Q := by
  obtain ⟨e, H0, Fr, as, rp, po⟩ := q
  refine ⟨e, H0, Fr, as, rp, po.bind fun rs e1 vs H1 H' s ⟨⟨as1, rp1⟩, ks⟩ po => ?_⟩
  obtain ⟨ds, q1, po⟩ := po.ofO
  obtain ⟨dz, q2, po⟩ := po.ofO
  exact h H1 H' vs ds dz Q rp1.sub q2 (ks.peeks rp1 q1) (po.newL rp1)
end
end F
end

section
set_option Elab.async false
set_option linter.all false
set_option autoImplicit false
set_option maxRecDepth 100000
/-! F layer, part G: operations. -/
namespace F
open PySem PySem.Spec PyProof.Rows L2
section
variable {c : Cn}
theorem Out.of {H0 H : Hp} {d : D} {Q : VK} (h : Out c H0 H d Q) {z : V} (hz : Dat c H0 d z) : Q z H := h.1 z hz
theorem Out.int {H0 H : Hp} {i : Int} {Q : VK} (h : Out c H0 H (.int i) Q) : Q (.int i) H := h.1 _ rfl
theorem Out.bl {H0 H : Hp} {b : Bool} {Q : VK} (h : Out c H0 H (.bl b) Q) : Q (.bl b) H := h.1 _ rfl
theorem Out.str {H0 H : Hp} {x : List Nat} {Q : VK} (h : Out c H0 H (.str x) Q) (hl : x.length ≤ lim) : Q (.str (sS x)) H := h.1 _ ⟨rfl, hl⟩
theorem sS_len (x : List Nat) : (sS x).length = x.length := by simp [sS, Str.length]
theorem sS_app (x y : List Nat) : sS x ++ sS y = sS (x ++ y) := by
  show (⟨(sS x).cps ++ (sS y).cps⟩ : Str) = _
  simp [sS]
theorem sS_tl (x : List Nat) : (sS x).cps.toList = x := by simp [sS]
theorem sS_inj {x y : List Nat} : sS x = sS y ↔ x = y := by
  constructor
  · intro h
    have := congrArg (fun z : Str => z.cps.toList) h
    simpa [sS] using this
  · intro h; rw [h]
def rAddV : R2 := fun x y H Q => (rI0 (fun i j => .int (i + j)) x y H Q) ∨ (∃ i j, x = .str i ∧ y = .str j ∧ i.length + j.length ≤ sizeLine ∧ Q (.str (i ++ j)) H)
theorem op_addV {X : Cx} : OpR X (binaryOp .Add) rAddV := OpR.or op_add op_add_str
theorem v_add : VOp2 c rAddV addD := by
  intro H0 H x y dx dy dz Q s e hx hy o
  cases dx <;> cases dy <;> try cases e
  · cases hx
    cases hy
    exact .inl ⟨_, _, rfl, rfl, o.int⟩
  · rename_i a b
    obtain ⟨rfl, h1⟩ := hx
    obtain ⟨rfl, h2⟩ := hy
    have e : (if a.length + b.length ≤ lim then some (D.str (a ++ b)) else none) = some dz := e
    by_cases hl : a.length + b.length ≤ lim
    · rw [if_pos hl] at e
      cases e
      refine .inr ⟨_, _, rfl, rfl, by rw [sS_len, sS_len, sizeLine_lim]; exact hl, ?_⟩
      rw [sS_app]
      exact o.str (by simpa using hl)
    · rw [if_neg hl] at e
      cases e
theorem v_sub : VOp2 c (rI0 fun i j => .int (i - j)) subD := by
  intro H0 H x y dx dy dz Q s e hx hy o
  cases dx <;> cases dy <;> try cases e
  cases hx
  cases hy
  exact ⟨_, _, rfl, rfl, o.int⟩
theorem v_mul : VOp2 c (rI CMul fun i j => .int (i * j)) mulD := by
  intro H0 H x y dx dy dz Q s e hx hy o
  cases dx <;> cases dy <;> try cases e
  rename_i i j
  cases hx
  cases hy
  have e : (if mulOk i j = true then some (D.int (i * j)) else none) = some dz := e
  by_cases hm : mulOk i j = true
  · rw [if_pos hm] at e
    cases e
    refine ⟨_, _, rfl, rfl, ?_, o.int⟩
    unfold mulOk at hm
    simp only [Bool.or_eq_true, Bool.and_eq_true, decide_eq_true_eq] at hm
    unfold CMul
    omega
  · rw [if_neg hm] at e
    cases e
theorem v_div : VOp2 c (rI CDiv fun i j => .int (i / j)) divD := by
  intro H0 H x y dx dy dz Q s e hx hy o
  cases dx <;> cases dy <;> try cases e
  rename_i i j
  cases hx
  cases hy
  have e : (if 0 < j ∧ j < 1073741824 then some (D.int (i / j)) else none) = some dz := e
  by_cases hm : 0 < j ∧ j < 1073741824
  · rw [if_pos hm] at e
    cases e
    exact ⟨_, _, rfl, rfl, hm, o.int⟩
  · rw [if_neg hm] at e
    cases e
theorem v_mod : VOp2 c (rI (fun _ j => 0 < j) fun i j => .int (i % j)) modD := by
  intro H0 H x y dx dy dz Q s e hx hy o
  cases dx <;> cases dy <;> try cases e
  rename_i i j
  cases hx
  cases hy
  have e : (if 0 < j then some (D.int (i % j)) else none) = some dz := e
  by_cases hm : 0 < j
  · rw [if_pos hm] at e
    cases e
    exact ⟨_, _, rfl, rfl, hm, o.int⟩
  · rw [if_neg hm] at e
    cases e
theorem v_pow : VOp2 c (rI CPow fun i j => .int (i ^ j.toNat)) powD := by
  intro H0 H x y dx dy dz Q s e hx hy o
  cases dx <;> cases dy <;> try cases e
  rename_i i j
  cases hx
  cases hy
  have e : (if 0 ≤ j ∧ j ≤ 1000000 ∧ i.natAbs < 18446744073709551616 then some (D.int (i ^ j.toNat)) else none) = some dz := e
  by_cases hm : 0 ≤ j ∧ j ≤ 1000000 ∧ i.natAbs < 18446744073709551616
  · rw [if_pos hm] at e
    cases e
    exact ⟨_, _, rfl, rfl, ⟨hm.1, hm.2.1, by have := hm.2.2; omega⟩, o.int⟩
  · rw [if_neg hm] at e
    cases e
theorem v_neg : VOp1 c (rU fun i => .int (-i)) negD := by
  intro H0 H x dx dz Q s e hx o
  cases dx <;> try cases e
  cases hx
  exact ⟨_, rfl, o.int⟩
theorem ip_addV : VIp c (ipI fun i j => i + j) addI := by
  intro H0 H x y dx dy dz Q s e hx hy o
  cases dx <;> cases dy <;> try cases e
  cases hx
  cases hy
  exact ⟨_, _, rfl, rfl, o.int⟩
/-! ### order -/
def rLtV : R2 := fun x y H Q => (rI0 (fun i j => .bl (decide (i < j))) x y H Q) ∨ (∃ i j, x = .str i ∧ y = .str j ∧ Q (.bl (decide (i.cps.toList < j.cps.toList))) H)
theorem op_ltV {X : Cx} : OpR X (compareOp .Lt) rLtV := OpR.or op_lt op_lt_str
theorem v_lt : VOp2 c rLtV ltD := by
  intro H0 H x y dx dy dz Q s e hx hy o
  cases dx <;> cases dy <;> try cases e
  · cases hx
    cases hy
    exact .inl ⟨_, _, rfl, rfl, o.bl⟩
  · obtain ⟨rfl, h1⟩ := hx
    obtain ⟨rfl, h2⟩ := hy
    exact .inr ⟨_, _, rfl, rfl, by rw [sS_tl, sS_tl]; exact o.bl⟩
def rGtV : R2 := fun x y H Q => (rI0 (fun i j => .bl (decide (j < i))) x y H Q) ∨ (∃ i j, x = .str i ∧ y = .str j ∧ Q (.bl (decide (j.cps.toList < i.cps.toList))) H)
theorem op_gtV {X : Cx} : OpR X (compareOp .Gt) rGtV := OpR.or op_gt op_gt_str
theorem v_gt : VOp2 c rGtV gtD := by
  intro H0 H x y dx dy dz Q s e hx hy o
  cases dx <;> cases dy <;> try cases e
  · cases hx
    cases hy
    exact .inl ⟨_, _, rfl, rfl, o.bl⟩
  · obtain ⟨rfl, h1⟩ := hx
    obtain ⟨rfl, h2⟩ := hy
    exact .inr ⟨_, _, rfl, rfl, by rw [sS_tl, sS_tl]; exact o.bl⟩
theorem v_ge : VOp2 c (rI0 fun i j => .bl (decide (j ≤ i))) geD := by
  intro H0 H x y dx dy dz Q s e hx hy o
  cases dx <;> cases dy <;> try cases e
  cases hx
  cases hy
  exact ⟨_, _, rfl, rfl, o.bl⟩
/-! ### is None -/
theorem isN_of {H0 H : Hp} {d : D} {v : V} (h : Dat1 c H0 H d v) : decide (v = .non) = isNone d := by
  cases d with
  | non => cases h; rfl
  | bl b => cases h; rfl
  | int i => cases h; rfl
  | str x => obtain ⟨rfl, _⟩ := h; rfl
  | tup l => obtain ⟨_, a, vs, rfl, _⟩ := h; rfl
  | lst l => obtain ⟨_, a, vs, rfl, _⟩ := h; rfl
  | dct l => obtain ⟨_, a, vs, rfl, _⟩ := h; rfl
  | obj k l => obtain ⟨a, dx, fs, rfl, _⟩ := h; rfl
  | ex k d => obtain ⟨a, rfl⟩ := c.exR _ _ _ _ h; rfl
theorem v_isN : VOp2 c (fun x y H Q => y = .non ∧ Q (.bl (decide (x = .non))) H) isD := by
  intro H0 H x y dx dy dz Q s e hx hy o
  cases dy <;> try cases e
  cases hy
  exact ⟨rfl, by rw [isN_of hx]; exact o.bl⟩
theorem v_notN : VOp2 c (fun x y H Q => y = .non ∧ Q (.bl (!decide (x = .non))) H) isntD := by
  intro H0 H x y dx dy dz Q s e hx hy o
  cases dy <;> try cases e
  cases hy
  exact ⟨rfl, by rw [isN_of hx]; exact o.bl⟩
/-! ### equality of plain data -/
mutual
def toP : D → PyData
  | .non => .none
  | .bl b => .bool b
  | .int i => .int i
  | .str x => .str (sS x)
  | .tup l => .tuple (toPs l)
  | .lst l => .list (toPs l)
  | .dct _ => .none
  | .obj _ _ => .none
  | .ex _ _ => .none
def toPs : List D → List PyData
  | [] => []
  | d :: ds => toP d :: toPs ds
end
mutual
theorem toP_plain : ∀ d : D, (toP d).plain = true
  | .non | .bl _ | .int _ | .str _ | .dct _ | .obj _ _ | .ex _ _ => rfl
  | .tup l => toPs_plain l
  | .lst l => toPs_plain l
theorem toPs_plain : ∀ l : List D, PyData.plainAll (toPs l) = true
  | [] => rfl
  | d :: ds => by
    show ((toP d).plain && PyData.plainAll (toPs ds)) = true
    rw [toP_plain d, toPs_plain ds]
    rfl
end
mutual
theorem toP_depth : ∀ d : D, (toP d).depth = d.dp
  | .non | .bl _ | .int _ | .str _ | .dct _ | .obj _ _ | .ex _ _ => rfl
  | .tup l => by
    show PyData.depthAll (toPs l) + 1 = dps l + 1
    rw [toPs_depth l]
  | .lst l => by
    show PyData.depthAll (toPs l) + 1 = dps l + 1
    rw [toPs_depth l]
theorem toPs_depth : ∀ l : List D, PyData.depthAll (toPs l) = dps l
  | [] => rfl
  | d :: ds => by
    show max (toP d).depth (PyData.depthAll (toPs ds)) = max d.dp (dps ds)
    rw [toP_depth d, toPs_depth ds]
end
mutual
theorem eqB_eqv : ∀ a b : D, a.pl = true → b.pl = true → PyData.eqv (toP a) (toP b) = eqB a b
  | a, .dct _, _, h => by cases h
  | a, .obj _ _, _, h => by cases h
  | a, .ex _ _, _, h => by cases h
  | .dct _, _, h, _ => by cases h
  | .obj _ _, _, h, _ => by cases h
  | .ex _ _, _, h, _ => by cases h
  | .non, .non, _, _ => rfl
  | .non, .bl _, _, _ => rfl
  | .non, .int _, _, _ => rfl
  | .non, .str _, _, _ => rfl
  | .non, .tup _, _, _ => rfl
  | .non, .lst _, _, _ => rfl
  | .bl _, .non, _, _ => rfl
  | .bl _, .bl _, _, _ => rfl
  | .bl _, .int _, _, _ => rfl
  | .bl _, .str _, _, _ => rfl
  | .bl _, .tup _, _, _ => rfl
  | .bl _, .lst _, _, _ => rfl
  | .int _, .non, _, _ => rfl
  | .int _, .bl _, _, _ => rfl
  | .int _, .int _, _, _ => rfl
  | .int _, .str _, _, _ => rfl
  | .int _, .tup _, _, _ => rfl
  | .int _, .lst _, _, _ => rfl
  | .str _, .non, _, _ => rfl
  | .str _, .bl _, _, _ => rfl
  | .str _, .int _, _, _ => rfl
  | .str x, .str y, _, _ => by
    show (sS x == sS y) = (x == y)
    by_cases h : x = y
    · subst h; simp
    · rw [beq_eq_false_iff_ne.mpr h, beq_eq_false_iff_ne.mpr fun z => h (sS_inj.mp z)]
  | .str _, .tup _, _, _ => rfl
  | .str _, .lst _, _, _ => rfl
  | .tup _, .non, _, _ => rfl
  | .tup _, .bl _, _, _ => rfl
  | .tup _, .int _, _, _ => rfl
  | .tup _, .str _, _, _ => rfl
  | .tup _, .lst _, _, _ => rfl
  | .tup l, .tup m, h, g => eqBs_eqv l m h g
  | .lst _, .non, _, _ => rfl
  | .lst _, .bl _, _, _ => rfl
  | .lst _, .int _, _, _ => rfl
  | .lst _, .str _, _, _ => rfl
  | .lst _, .tup _, _, _ => rfl
  | .lst l, .lst m, h, g => eqBs_eqv l m h g
theorem eqBs_eqv : ∀ l m : List D, pls l = true → pls m = true → PyData.eqvAll (toPs l) (toPs m) = eqBs l m
  | [], [], _, _ => rfl
  | [], _ :: _, _, _ => rfl
  | _ :: _, [], _, _ => rfl
  | a :: l, b :: m, h, g => by
    have h : (a.pl && pls l) = true := h
    have g : (b.pl && pls m) = true := g
    rw [Bool.and_eq_true] at h g
    show (PyData.eqv (toP a) (toP b) && PyData.eqvAll (toPs l) (toPs m)) = (eqB a b && eqBs l m)
    rw [eqB_eqv a b h.1 g.1, eqBs_eqv l m h.2 g.2]
end
mutual
theorem Dat.dp {H : Hp} : ∀ (d : D) (v : V), d.pl = true → Dat c H d v → Dp c.K H v (toP d)
  | .non, _, _, h => by cases h; exact .non
  | .bl _, _, _, h => by cases h; exact .bl _
  | .int _, _, _, h => by cases h; exact .int _
  | .str _, _, _, ⟨h, _⟩ => by cases h; exact .str _
  | .tup l, _, p, ⟨_, a, vs, h1, h2, h3⟩ => by cases h1; exact .tup h2 (Dats.dp l vs p h3)
  | .lst l, _, p, ⟨_, a, vs, h1, h2, h3⟩ => by cases h1; exact .lst h2 (Dats.dp l vs p h3)
  | .dct _, _, p, _ => by cases p
  | .obj _ _, _, p, _ => by cases p
  | .ex _ _, _, p, _ => by cases p
theorem Dats.dp {H : Hp} : ∀ (l : List D) (vs : List V), pls l = true → Dats c H l vs → DpAll c.K H vs (toPs l)
  | [], _, _, h => by
    have h : _ = _ := h
    subst h
    exact .nil
  | d :: ds, _, p, ⟨v, r, h1, h2, h3⟩ => by
    have p : (d.pl && pls ds) = true := p
    rw [Bool.and_eq_true] at p
    subst h1
    exact .cons (Dat.dp d v p.1 h2) (Dats.dp ds r p.2 h3)
end
def rEqP (K : PySem.W.Frag) : R2 := fun x y H Q => ∃ d e, Dp K H x d ∧ Dp K H y e ∧ d.plain = true ∧ e.plain = true ∧ min d.depth e.depth ≤ 50 ∧ Q (.bl (PyData.eqv d e)) H
def rNeP (K : PySem.W.Frag) : R2 := fun x y H Q => ∃ d e, Dp K H x d ∧ Dp K H y e ∧ d.plain = true ∧ e.plain = true ∧ min d.depth e.depth ≤ 50 ∧ Q (.bl (!PyData.eqv d e)) H
theorem op_eqP {X : Cx} (hu : X.A.units + 64 < cLine) : OpR X (compareOp .Eq) (rEqP X.K) := by
  intro pins s σ H x y v u Q I rx ry ⟨d, e, hd, he, pd, pe, hm, q⟩
  obtain ⟨as, r1⟩ := Dp.reads I d x v hd rx
  obtain ⟨bs, r2⟩ := Dp.reads I e y u he ry
  exact SeqAt.eq_plain r1 r2 pd pe (by omega) ⟨.bl _, H, I, rfl, q⟩
theorem op_neP {X : Cx} (hu : X.A.units + 64 < cLine) : OpR X (compareOp .NotEq) (rNeP X.K) := by
  intro pins s σ H x y v u Q I rx ry ⟨d, e, hd, he, pd, pe, hm, q⟩
  obtain ⟨as, r1⟩ := Dp.reads I d x v hd rx
  obtain ⟨bs, r2⟩ := Dp.reads I e y u he ry
  exact SeqAt.ne_plain r1 r2 pd pe (by omega) ⟨.bl _, H, I, rfl, q⟩
theorem cmpOk_of {a b : D} (h : cmpOk a b = true) : a.pl = true ∧ b.pl = true ∧ min (toP a).depth (toP b).depth ≤ 50 := by
  unfold cmpOk at h
  simp only [Bool.and_eq_true, Bool.or_eq_true, decide_eq_true_eq] at h
  obtain ⟨⟨h1, h2⟩, h3⟩ := h
  rw [toP_depth, toP_depth]
  exact ⟨h1, h2, by omega⟩
theorem v_eq : VOp2 c (rEqP c.K) eqD := by
  intro H0 H x y dx dy dz Q s e hx hy o
  unfold eqD at e
  split at e
  · rename_i h
    cases e
    obtain ⟨h1, h2, h3⟩ := cmpOk_of h
    exact ⟨_, _, Dat.dp _ _ h1 (hx.dat s), Dat.dp _ _ h2 (hy.dat s), toP_plain _, toP_plain _, h3, by rw [eqB_eqv _ _ h1 h2]; exact o.bl⟩
  · cases e
theorem v_ne : VOp2 c (rNeP c.K) neD := by
  intro H0 H x y dx dy dz Q s e hx hy o
  unfold neD at e
  split at e
  · rename_i h
    cases e
    obtain ⟨h1, h2, h3⟩ := cmpOk_of h
    exact ⟨_, _, Dat.dp _ _ h1 (hx.dat s), Dat.dp _ _ h2 (hy.dat s), toP_plain _, toP_plain _, h3, by rw [eqB_eqv _ _ h1 h2]; exact o.bl⟩
  · cases e
/-! ### in -/
def rInP (K : PySem.W.Frag) (neg : Bool) : R2 := fun x y H Q => ∃ p xs d ds, y = .ref p ∧ (SqL K H p xs ∨ SqT K H p xs) ∧ DpAll K H xs ds ∧ Dp K H x d ∧ PyData.plainAll ds = true ∧ d.plain = true ∧ d.depth ≤ 50 ∧ Q (.bl (if neg then !(ds.any fun y => PyData.eqv y d) else ds.any fun y => PyData.eqv y d)) H
theorem op_inP {X : Cx} (hu : X.A.units + 64 < cLine) : OpR X (compareOp .In) (rInP X.K false) := by
  intro pins s σ H x y v u Q I rx ry ⟨p, xs, d, ds, e, hs, hds, hd, pds, pd, hm, q⟩
  subst e
  obtain ⟨as, r1⟩ := Dp.reads I d x v hd rx
  rcases hs with hs | hs
  · obtain ⟨bs, r2⟩ := Dp.reads I (.list ds) _ u (.lst hs hds) ry
    exact SeqAt.in_list_data r2 r1 pds pd (by omega) ⟨.bl _, H, I, rfl, q⟩
  · obtain ⟨bs, r2⟩ := Dp.reads I (.tuple ds) _ u (.tup hs hds) ry
    exact SeqAt.in_tuple_data r2 r1 pds pd (by omega) ⟨.bl _, H, I, rfl, q⟩
theorem op_notInP {X : Cx} (hu : X.A.units + 64 < cLine) : OpR X (compareOp .NotIn) (rInP X.K true) := by
  intro pins s σ H x y v u Q I rx ry ⟨p, xs, d, ds, e, hs, hds, hd, pds, pd, hm, q⟩
  subst e
  obtain ⟨as, r1⟩ := Dp.reads I d x v hd rx
  rcases hs with hs | hs
  · obtain ⟨bs, r2⟩ := Dp.reads I (.list ds) _ u (.lst hs hds) ry
    exact SeqAt.notIn_list_data r2 r1 pds pd (by omega) ⟨.bl _, H, I, rfl, q⟩
  · obtain ⟨bs, r2⟩ := Dp.reads I (.tuple ds) _ u (.tup hs hds) ry
    exact SeqAt.notIn_tuple_data r2 r1 pds pd (by omega) ⟨.bl _, H, I, rfl, q⟩
theorem any_toP {x : D} (hx : x.pl = true) : ∀ {l : List D}, pls l = true → ((toPs l).any fun y => PyData.eqv y (toP x)) = l.any fun y => eqB y x
  | [], _ => rfl
  | d :: ds, h => by
    have h : (d.pl && pls ds) = true := h
    rw [Bool.and_eq_true] at h
    show (PyData.eqv (toP d) (toP x) || (toPs ds).any fun y => PyData.eqv y (toP x)) = (eqB d x || ds.any fun y => eqB y x)
    rw [eqB_eqv d x h.1 hx, any_toP hx h.2]
def rInV (K : PySem.W.Frag) (neg : Bool) : R2 := fun x y H Q => rInP K neg x y H Q ∨ ∃ (k : Nat) (z : Str), x = .str ⟨#[k]⟩ ∧ y = .str z ∧ Q (.bl (if neg then !decide (k ∈ z.cps.toList) else decide (k ∈ z.cps.toList))) H
theorem op_inV {X : Cx} (hu : X.A.units + 64 < cLine) : OpR X (compareOp .In) (rInV X.K false) := OpR.or (op_inP hu) op_in_sign
theorem op_notInV {X : Cx} (hu : X.A.units + 64 < cLine) : OpR X (compareOp .NotIn) (rInV X.K true) := OpR.or (op_notInP hu) op_notIn_sign
theorem v_inB {H0 H : Hp} {x y : V} {dx dy : D} {b neg : Bool} {Q : VK} (s : Same H0 H) (e : inB dx dy = some b) (hx : Dat1 c H0 H dx x) (hy : Dat1 c H0 H dy y) (q : Q (.bl (if neg then !b else b)) H) : rInV c.K neg x y H Q := by
  have seq : ∀ {l : List D}, (if dx.pl && pls l && decide (dx.dp ≤ 50) then some (l.any fun y => eqB y dx) else none) = some b → (∃ p vs, y = .ref p ∧ (SqL c.K H p vs ∨ SqT c.K H p vs) ∧ Dats c H0 l vs) → rInV c.K neg x y H Q := fun {l} e ⟨p, vs, h1, h2, h3⟩ => by
    split at e
    · rename_i h
      cases e
      simp only [Bool.and_eq_true, decide_eq_true_eq] at h
      obtain ⟨⟨g1, g2⟩, g3⟩ := h
      exact .inl ⟨p, vs, toP dx, toPs l, h1, h2, Dats.dp l vs g2 (Dats.mono s _ _ h3), Dat.dp dx x g1 (hx.dat s), toPs_plain l, toP_plain dx, by rw [toP_depth]; exact g3, by rw [any_toP g1 g2]; exact q⟩
    · cases e
  cases dy with
  | str z =>
    unfold inB at e
    split at e
    · rename_i k y' e1 e2
      cases e2
      cases e
      obtain ⟨rfl, _⟩ := hx
      obtain ⟨rfl, _⟩ := hy
      exact .inr ⟨_, sS z, rfl, rfl, by rw [sS_tl]; exact q⟩
    · rename_i e2; cases e2
    · rename_i e2; cases e2
    · cases e
  | lst l =>
    obtain ⟨_, p, vs, h1, h2, h3⟩ := hy
    refine seq (l := l) ?_ ⟨p, vs, h1, .inl h2, h3⟩
    unfold inB at e
    split at e
    · rename_i e2; cases e2
    · rename_i e2; cases e2; exact e
    · rename_i e2; cases e2
    · cases e
  | tup l =>
    obtain ⟨_, p, vs, h1, h2, h3⟩ := hy
    refine seq (l := l) ?_ ⟨p, vs, h1, .inr h2, h3⟩
    unfold inB at e
    split at e
    · rename_i e2; cases e2
    · rename_i e2; cases e2
    · rename_i e2; cases e2; exact e
    · cases e
  | _ =>
    unfold inB at e
    split at e
    · rename_i e2; cases e2
    · rename_i e2; cases e2
    · rename_i e2; cases e2
    · cases e
theorem v_in : VOp2 c (rInV c.K false) inD := by
  intro H0 H x y dx dy dz Q s e hx hy o
  unfold inD at e
  cases q : inB dx dy with
  | none =>
    rw [q] at e
    cases e
  | some b =>
    rw [q] at e
    cases e
    exact v_inB s q hx hy o.bl
theorem v_notIn : VOp2 c (rInV c.K true) ninD := by
  intro H0 H x y dx dy dz Q s e hx hy o
  unfold ninD at e
  cases q : inB dx dy with
  | none =>
    rw [q] at e
    cases e
  | some b =>
    rw [q] at e
    cases e
    exact v_inB s q hx hy o.bl
/-! ### items -/
theorem atI_dats {H0 : Hp} {l : List D} {vs : List V} {i : Int} {d : D} (h : Dats c H0 l vs) (e : getI l i = some d) : ∃ v, atI vs i = some v ∧ Dat c H0 d v := by
  unfold getI at e
  unfold atI
  rw [h.len]
  cases q : ixI l.length i with
  | none =>
    rw [q] at e
    cases e
  | some j =>
    rw [q] at e
    have q2 : ixN l.length i = some j := q
    rw [q2]
    exact h.get (i := j) e
theorem v_ix : VOp2 c (rIx c.K) ixD := by
  intro H0 H x y dx dy dz Q s e hx hy o
  cases dx with
  | lst l =>
    cases dy with
    | int i =>
      obtain ⟨_, p, vs, rfl, h2, h3⟩ := hx
      cases hy
      obtain ⟨v, h4, h5⟩ := atI_dats h3 e
      exact .inl ⟨p, vs, i, v, rfl, rfl, h2, h4, o.of h5⟩
    | _ => cases e
  | tup l =>
    cases dy with
    | int i =>
      obtain ⟨_, p, vs, rfl, h2, h3⟩ := hx
      cases hy
      obtain ⟨v, h4, h5⟩ := atI_dats h3 e
      exact .inr (.inl ⟨p, vs, i, v, rfl, rfl, h2, h4, o.of h5⟩)
    | _ => cases e
  | str z =>
    cases dy with
    | int i =>
      obtain ⟨rfl, hl⟩ := hx
      cases hy
      have e : (getI z i).map (fun k => D.str [k]) = some dz := e
      cases q : getI z i with
      | none =>
        rw [q] at e
        cases e
      | some k =>
        rw [q] at e
        cases e
        refine .inr (.inr ⟨sS z, i, k, rfl, rfl, by rw [sS_len, sizeLine_lim]; exact hl, by rw [sS_tl]; exact q, ?_⟩)
        exact o.of (z := .str ⟨#[k]⟩) ⟨rfl, by simp [lim]⟩
    | _ => cases e
  | _ => cases dy <;> cases e
end
end F
end

section
set_option Elab.async false
set_option linter.all false
set_option autoImplicit false
set_option maxRecDepth 100000
/-! F layer, part H: defs, built-ins, methods, what is walked, match. -/
namespace F
open PySem PySem.Spec PyProof.Rows L2
/-! ### a def keeps its promise -/
theorem mergeO_eq : ∀ {os os' : List O}, os'.length = os.length → (mergeO os os').length = os.length
  | [], [], _ => rfl
  | [], _ :: _, h => by simp at h
  | o :: os, [], h => by simp at h
  | o :: os, o' :: os', h => by
    have := mergeO_eq (os := os) (os' := os') (by simpa using h)
    cases o <;> simp [mergeO, this]
theorem mergeO_get : ∀ {os os' : List O} {i : Nat} {o : O}, (mergeO os os')[i]? = some o → (∃ d, os[i]? = some (.sh d) ∧ o = .sh d) ∨ (os'[i]? = some o ∧ ∃ o1, os[i]? = some o1 ∧ ∀ d, o1 ≠ .sh d)
  | [], _, i, o, h => by simp [mergeO] at h
  | .sh d :: os, [], i, o, h => by simp [mergeO] at h
  | .fl _ :: os, [], i, o, h => by simp [mergeO] at h
  | .fd _ :: os, [], i, o, h => by simp [mergeO] at h
  | .fo _ _ :: os, [], i, o, h => by simp [mergeO] at h
  | o1 :: os, o2 :: os', 0, o, h => by
    cases o1 with
    | sh d =>
      simp [mergeO] at h
      exact .inl ⟨d, rfl, h.symm⟩
    | fl l =>
      simp [mergeO] at h
      exact .inr ⟨by simp [h], _, rfl, fun d z => by cases z⟩
    | fd l =>
      simp [mergeO] at h
      exact .inr ⟨by simp [h], _, rfl, fun d z => by cases z⟩
    | fo k l =>
      simp [mergeO] at h
      exact .inr ⟨by simp [h], _, rfl, fun d z => by cases z⟩
  | o1 :: os, o2 :: os', i + 1, o, h => by
    have : (mergeO os os')[i]? = some o := by
      cases o1 <;> simpa [mergeO] using h
    simpa using mergeO_get this
theorem endF_get {n : Nat} {e : Env} {os' : List O} (h : endF n e = some os') : os'.length = min n e.length ∧ ∀ (i : Nat) (o : O), os'[i]? = some o → slot e i = some o := by
  unfold endF at h
  have key : ∀ {l : List (Option O)} {os' : List O}, allO l = some os' → os'.length = l.length ∧ ∀ (i : Nat) (o : O), os'[i]? = some o → l[i]? = some (some o) := by
    intro l
    induction l with
    | nil =>
      intro os' h
      cases h
      simp
    | cons x l ih =>
      intro os' h
      cases x with
      | none => cases h
      | some a =>
        have h : (allO l).map (a :: ·) = some os' := h
        cases q : allO l with
        | none =>
          rw [q] at h
          cases h
        | some b =>
          rw [q] at h
          cases h
          obtain ⟨h1, h2⟩ := ih q
          refine ⟨by simp [h1], fun i o q => ?_⟩
          cases i with
          | zero => simpa using q
          | succ i => simpa using h2 i o (by simpa using q)
  obtain ⟨h1, h2⟩ := key h
  refine ⟨by rw [h1, List.length_take], fun i o q => ?_⟩
  have := h2 i o q
  rw [List.getElem?_take] at this
  split at this
  · unfold slot
    rw [this]
  · cases this
def asB (os : List O) (as' : Nat → List Addr) (i : Nat) : List Addr := match os[i]? with
  | some (.sh _) => []
  | some _ => as' i
  | none => []
/-- the arguments' things behind the body -/
theorem args_back {c : Cn} {H0 H1 Fr Fr2 H H' : Hp} {vs : List V} {os os' : List O} {n : Nat} {σ' : St} {e : Env} {as as' : Nat → List Addr} (rp0 : Rp c H0 Fr H (vs.map some) (os.map some) as) (hn : vs.length = n) (s : Same H0 H1)
    (hp : ∀ (i : Nat) (o : O), os[i]? = some o → (∀ d, o ≠ .sh d) → σ'[i]? = (vs.map some)[i]?) (r : Rp c H1 Fr2 H' σ' e as') (he : endF n e = some os') (hl : n ≤ e.length) :
    ∃ as2, Rp c H1 Fr2 H' (vs.map some) ((mergeO os os').map some) as2 := by
  obtain ⟨h1, h2⟩ := endF_get he
  have hos : os.length = n := by
    have := rp0.len
    simpa [hn] using this
  have hos' : os'.length = os.length := by omega
  have hm := mergeO_eq hos'
  -- shared arguments: from the start; the others: from the end
  have own : ∀ i o, slot ((mergeO os os').map some) i = some o → (∃ d, os[i]? = some (.sh d) ∧ o = .sh d) ∨ (slot e i = some o ∧ σ'[i]? = (vs.map some)[i]? ∧ ∀ d, os[i]? ≠ some (.sh d)) := fun i o q => by
    have q2 : (mergeO os os')[i]? = some o := by
      unfold slot at q
      rw [List.getElem?_map] at q
      cases z : (mergeO os os')[i]? with
      | none => rw [z] at q; cases q
      | some x => rw [z] at q; simpa using q
    rcases mergeO_get q2 with z | ⟨z1, o1, z2, z3⟩
    · exact .inl z
    · refine .inr ⟨h2 i o z1, hp i o1 z2 z3, fun d z => ?_⟩
      rw [z2] at z
      exact z3 d (by simpa using z)
  refine ⟨asB os as', by simp [hm, hos, hn], r.sub, r.fr, fun i o q => ?_, fun i a ha => ?_, fun i j a ha hj => ?_, fun i => ?_, fun i q => ?_, r.tab.sub fun i a z => ⟨i, by
    unfold asB at z
    split at z
    · cases z
    · exact z
    · cases z⟩⟩
  · rcases own i o q with ⟨d, z1, rfl⟩ | ⟨z1, z2, z3⟩
    · obtain ⟨v, g1, g2⟩ := rp0.own i (.sh d) (by unfold slot; rw [List.getElem?_map, z1]; rfl)
      exact ⟨v, g1, by unfold asB; rw [z1]; exact ⟨rfl, Dat.mono s _ _ g2.2⟩⟩
    · obtain ⟨v, g1, g2⟩ := r.own i o z1
      refine ⟨v, by rw [← z2]; exact g1, ?_⟩
      unfold asB
      cases z : os[i]? with
      | none =>
        have hlt := slot_lt q
        have : i < os.length := by simpa [hm] using hlt
        rw [List.getElem?_eq_none_iff] at z
        omega
      | some o1 =>
        cases o1 with
        | sh d => exact absurd z (z3 d)
        | fl l => exact g2
        | fd l => exact g2
        | fo k l => exact g2
  · unfold asB at ha
    split at ha
    · cases ha
    · exact r.off i a ha
    · cases ha
  · unfold asB at ha hj
    split at ha
    · cases ha
    · split at hj
      · cases hj
      · exact r.sep i j a ha hj
      · cases hj
    · cases ha
  · unfold asB
    split
    · exact List.nodup_nil
    · exact r.nd i
    · exact List.nodup_nil
  · have q2 : (mergeO os os')[i]? = none := by
      unfold slot at q
      rw [List.getElem?_map] at q
      cases z : (mergeO os os')[i]? with
      | none => rfl
      | some x => rw [z] at q; cases q
    have : os[i]? = none := by
      rw [List.getElem?_eq_none_iff] at q2 ⊢
      omega
    unfold asB
    rw [this]
section
variable {P : Program} {w : World} {K : PySem.W.Frag} {mg : Str → Option Value} {base : Heap} {t : Tb}
theorem gdO_get : ∀ {pr : Nat → Bool} {os : List O} {j i : Nat} {o : O}, gdO pr j os = true → os[i]? = some o → (∀ d, o ≠ .sh d) → pr (j + i) = true
  | pr, [], j, i, o, h, q, _ => by simp at q
  | pr, o1 :: os, j, 0, o, h, q, z => by
    simp at q
    subst q
    cases o1 with
    | sh d => exact absurd rfl (z d)
    | fl l => exact (Bool.and_eq_true_iff.mp (show (pr j && gdO pr (j + 1) os) = true from h)).1
    | fd l => exact (Bool.and_eq_true_iff.mp (show (pr j && gdO pr (j + 1) os) = true from h)).1
    | fo k l => exact (Bool.and_eq_true_iff.mp (show (pr j && gdO pr (j + 1) os) = true from h)).1
  | pr, o1 :: os, j, i + 1, o, h, q, z => by
    have h2 : gdO pr (j + 1) os = true := by
      cases o1 with
      | sh d => exact h
      | fl l => exact (Bool.and_eq_true_iff.mp (show (pr j && gdO pr (j + 1) os) = true from h)).2
      | fd l => exact (Bool.and_eq_true_iff.mp (show (pr j && gdO pr (j + 1) os) = true from h)).2
      | fo k l => exact (Bool.and_eq_true_iff.mp (show (pr j && gdO pr (j + 1) os) = true from h)).2
    have := gdO_get (i := i) h2 (by simpa using q) z
    rw [show j + (i + 1) = j + 1 + i by omega]
    exact this
theorem Rp.pad {c : Cn} {H0 Fr H : Hp} {σ : St} {e : Env} {as : Nat → List Addr} (r : Rp c H0 Fr H σ e as) (j : Nat) : ∃ as', Rp c H0 Fr H (σ ++ List.replicate j none) (e ++ List.replicate j none) as' := by
  refine r.re (by simp [r.len]) id (fun i o q => ?_) (fun i j _ _ _ _ h => h)
  by_cases hi : i < e.length
  · rw [slot_app_l hi] at q
    exact ⟨q, by rw [id, get_app_l (by rw [← r.len]; exact hi)]⟩
  · obtain ⟨k, rfl⟩ : ∃ k, i = e.length + k := ⟨i - e.length, by omega⟩
    rw [slot_app_r] at q
    unfold slot at q
    split at q
    · rename_i z
      have := List.mem_of_getElem? z
      simp at this
    · cases q
/-- as FunD.ok, with the code object that the body runs under -/
theorem okC {x qual : Str} {params : Arguments} {body : List Stmt} {scope : Scope} {dvs : List V} {kws : List (Str × V)} {f : Addr} {fd : FuncData} {CX : CXT} {N ps : List Str} {k : Nat} {sp : Sp} (F : FunD K x qual params body scope dvs kws f fd) (S : FnScope N ps scope) (len : ∀ vs H Q E, sp vs H Q E → vs.length = ps.length)
    (hb : ∀ (cdv : Value) (A : Around) (outer : List PySem.Env) (s : Shared) (H : Hp) (vs : List V) (Q : VK) (E : XK), cdv = fd.code → PySem.W.codeIn K cdv qual = true → Room k (A.deeper (envOfC qual scope s.heap.objs.size f cdv)) → sp vs H Q E →
      ∃ t, PSs (cxOf CX P w K mg base N qual scope f cdv A outer s H E) body t ∧ t { nx := fun _ H' => Q .non H', rt := Q } (start N vs) H) : FnOk P w K mg base CX (k + 1) f fd ps sp := by
  obtain ⟨oc, od, dV, kV, doc, pm, an, cdv, ct, osl, rfl, lk, hcd, _, _⟩ := F.ex
  exact fn_of lk hcd S len fun A outer s H vs Q E hr hsp => hb cdv A outer s H vs Q E rfl hcd hr hsp
/-- a promise as what the body's plain function must do -/
theorem fn_read {c : Cn} {pr : Nat → Bool} {n j : Nat} {m : MS} {Z : Fn} {vs : List V} {H : Hp} {Q : VK} {E : XK} (hZ : ∀ os, Z os ≠ .bad → Z os = runF pr n j m os) (hsp : spF t c Z n vs H Q E) :
    tS t c (fun cls d _ H => E cls d H) pr m { nx := fun _ H' => Q .non H', rt := Q } (vs.map some ++ List.replicate j none) H := by
  obtain ⟨hvs, os, H0, Fr, as, rp, hm⟩ := hsp
  obtain ⟨as1, rp1⟩ := rp.pad j
  refine ⟨_, H0, Fr, as1, rp1, ?_⟩
  have hne : Z os ≠ .bad := fun z => by
    rw [z] at hm
    exact hm
  rw [hZ os hne] at hm
  unfold runF at hm
  by_cases hg : gdO pr 0 os = true
  case neg =>
    rw [if_neg hg] at hm
    exact hm.elim
  rw [if_pos hg] at hm
  have prot : ∀ {σ' : St}, Prot pr (vs.map some ++ List.replicate j none) σ' → ∀ (i : Nat) (o : O), os[i]? = some o → (∀ d, o ≠ .sh d) → σ'[i]? = (vs.map some)[i]? := fun {σ'} p i o q z => by
    have hlt : i < (vs.map some).length := by
      have h1 := (List.getElem?_eq_some_iff.mp q).1
      have h2 := rp.len
      simp at h2 ⊢
      omega
    have h1 := gdO_get hg q z
    rw [Nat.zero_add] at h1
    rw [p.2 i h1, get_app_l hlt]
  have elen : ∀ {σ' : St} {H1 Fr' H' : Hp} {e : Env} {as' : Nat → List Addr}, Prot pr (vs.map some ++ List.replicate j none) σ' → Rp c H1 Fr' H' σ' e as' → n ≤ e.length := fun p r => by
    rw [r.len, p.1]
    simp [hvs]
  cases q : m (os.map some ++ List.replicate j none) with
  | bad =>
    rw [q] at hm
    exact hm
  | bk e =>
    rw [q] at hm
    exact hm.elim
  | ct e =>
    rw [q] at hm
    exact hm.elim
  | nx e =>
    rw [q] at hm
    cases z : endF n e with
    | none =>
      simp only [finR, z] at hm
    | some os' =>
      simp only [finR, z] at hm
      intro σ' H1 H' as' s1 p r
      obtain ⟨as2, r2⟩ := args_back rp hvs s1 (prot p) r z (elen p r)
      exact hm .non H1 H' s1 (r2.sh1 rfl)
  | rt o e =>
    rw [q] at hm
    cases z : endF n e with
    | none =>
      simp only [finR, z] at hm
    | some os' =>
      simp only [finR, z] at hm
      intro v σ' H1 H' s1 p ⟨bs, as', ow, nd, off, r⟩
      -- the frame with the result's own objects
      have rp2 : Rp c H0 Fr H (vs.map some) (os.map some) as := rp
      obtain ⟨as2, r2⟩ := args_back rp hvs s1 (prot p) r z (elen p r)
      exact hm v H1 H' s1 ⟨bs, as2, ow, nd, off, r2⟩
  | ex k' p' e =>
    rw [q] at hm
    cases z : endF n e with
    | none =>
      simp only [finR, z] at hm
    | some os' =>
      simp only [finR, z] at hm
      intro σ' H1 H' as' cls dx s1 p r xa
      obtain ⟨as2, r2⟩ := args_back rp hvs s1 (prot p) r z (elen p r)
      exact hm H1 H' as2 cls dx s1 r2 xa
/-- THE RULE for a def: its body as a plain function; pr: the parameters whose things it may be lent (never stored to); Z: what it does, told where it is asked -/
theorem fn_F {x qual : Str} {params : Arguments} {body : List Stmt} {scope : Scope} {dvs : List V} {kws : List (Str × V)} {f : Addr} {fd : FuncData} {N ps : List Str} {k n j : Nat} {m : MS} (F : FunD K x qual params body scope dvs kws f fd) (S : FnScope N ps scope) (pr : Nat → Bool) (hn : ps.length = n) (hN : N.length = n + j) (Z : Fn)
    (hZ : ∀ os, Z os ≠ .bad → Z os = runF pr n j m os)
    (hb : ∀ (cdv : Value) (A : Around) (outer : List PySem.Env) (s : Shared) (H : Hp) (E : XK), cdv = fd.code → PySem.W.codeIn K cdv qual = true → Room k (A.deeper (envOfC qual scope s.heap.objs.size f cdv)) →
      SSs (cxOf (L2.CX P w) P w K mg base N qual scope f cdv A outer s H E) t (fun cls d _ H => E cls d H) pr body m) : FO P w K mg base t (k + 1) f fd ps Z n := by
  refine okC F S (fun vs H Q E h => by rw [h.1, hn]) fun cdv A outer s H vs Q E hc hci hr hsp => ⟨_, hb cdv A outer s H E hc hci hr, ?_⟩
  have hst : L2.start N vs = vs.map some ++ List.replicate j none := by
    unfold L2.start
    rw [hN, hsp.1, Nat.add_sub_cancel_left]
  rw [hst]
  exact fn_read hZ hsp
end
end F
end

section
set_option Elab.async false
set_option linter.all false
set_option autoImplicit false
set_option maxRecDepth 100000
/-! F layer, part I: built-ins, methods, what is walked, match. -/
namespace F
open PySem PySem.Spec PyProof.Rows L2
section
variable {X : Cx} {t : Tb} {W : WX} {a b : Expr} {es : List Expr} {ma mb : M R} {ms : List (M R)} {pos p : Pos} {x : Str} {id : String}
/-! ### built-ins by values -/
theorem se_bi {r : List V → Hp → VK → Prop} {f : List D → Option D} (hc : CallR X (.builtin id) r) (h : CB (cn X t) r f) (hg : Gl X x) (hm : X.mg x = none) (hv : bootBuiltins x = some (.builtin id)) (ha : SA X t W (a :: es) (mRs ms)) (hn : x ≠ "__name__" := by decide) (hdb : (x == ("__debug__" : Str)) = false := by decide)
    (he : starEach (a :: es) X.env = (false, eval a X.env) :: starEach es X.env := by rfl) (hpl : (backTo pos (starEach es X.env)).any (·.1) = false := by rfl) : SE X t W (.Call (.Name x p) (a :: es) [] pos) (mBi f ms) :=
  PE.imp (pe_callB hc hg hm hv ha hn hdb he hpl) fun _ _ _ q => tI_bi h q
theorem se_bl' {r : List V → Hp → VK → Prop} {f : List D → Option (List D)} (hc : CallR X (.builtin id) r) (h : CBl (cn X t) r f) (hg : Gl X x) (hm : X.mg x = none) (hv : bootBuiltins x = some (.builtin id)) (ha : SA X t W (a :: es) (mRs ms)) (hn : x ≠ "__name__" := by decide) (hdb : (x == ("__debug__" : Str)) = false := by decide)
    (he : starEach (a :: es) X.env = (false, eval a X.env) :: starEach es X.env := by rfl) (hpl : (backTo pos (starEach es X.env)).any (·.1) = false := by rfl) : SE X t W (.Call (.Name x p) (a :: es) [] pos) (mBl f ms) :=
  PE.imp (pe_callB hc hg hm hv ha hn hdb he hpl) fun _ _ _ q => tI_bl h q
theorem se_ti {r : List V → Hp → VK → Prop} {f : List D → Option D} (hc : CallR X (.type id) r) (h : CB (cn X t) r f) (hg : Gl X x) (hm : X.mg x = none) (hv : bootBuiltins x = some (.type id)) (ha : SA X t W (a :: es) (mRs ms)) (hn : x ≠ "__name__" := by decide) (hdb : (x == ("__debug__" : Str)) = false := by decide)
    (he : starEach (a :: es) X.env = (false, eval a X.env) :: starEach es X.env := by rfl) (hpl : (backTo pos (starEach es X.env)).any (·.1) = false := by rfl) : SE X t W (.Call (.Name x p) (a :: es) [] pos) (mBi f ms) :=
  PE.imp (pe_callTy hc hg hm hv ha hn hdb he hpl) fun _ _ _ q => tI_bi h q
end
section
variable {c : Cn}
theorem Dats1.one {H0 H : Hp} {d : D} {vs : List V} (h : Dats1 c H0 H [d] vs) : ∃ v, vs = [v] ∧ Dat1 c H0 H d v := by
  obtain ⟨v, r, h1, h2, h3⟩ := h
  have h3 : r = [] := h3
  subst h3
  exact ⟨v, h1, h2⟩
theorem Dats1.two {H0 H : Hp} {d e : D} {vs : List V} (h : Dats1 c H0 H [d, e] vs) : ∃ v w, vs = [v, w] ∧ Dat1 c H0 H d v ∧ Dat1 c H0 H e w := by
  obtain ⟨v, r, h1, h2, h3⟩ := h
  obtain ⟨w, h4, h5⟩ := Dats1.one h3
  subst h4
  exact ⟨v, w, h1, h2, h5⟩
def rLenV (K : PySem.W.Frag) : List V → Hp → VK → Prop := fun xs H Q => (∃ p ys, xs = [.ref p] ∧ (SqL K H p ys ∨ SqT K H p ys) ∧ Q (.int ys.length) H) ∨ ∃ z, xs = [.str z] ∧ z.length ≤ sizeLine ∧ Q (.int z.length) H
theorem call_lenV {X : Cx} : CallR X (.builtin "len") (rLenV X.K) := CallR.or call_len_seq call_len_str
theorem b_len : CB c (rLenV c.K) lenD := by
  intro H0 H xs ds dz Q s e h o
  match ds, e with
  | [.str x], e =>
    cases e
    obtain ⟨v, rfl, rfl, hl⟩ := h.one
    exact .inr ⟨sS x, rfl, by rw [sS_len, sizeLine_lim]; exact hl, by rw [sS_len]; exact o.int⟩
  | [.lst l], e =>
    cases e
    obtain ⟨v, rfl, hl, q, vs, rfl, h2, h3⟩ := h.one
    exact .inl ⟨q, vs, rfl, .inl h2, by rw [h3.len]; exact o.int⟩
  | [.tup l], e =>
    cases e
    obtain ⟨v, rfl, hl, q, vs, rfl, h2, h3⟩ := h.one
    exact .inl ⟨q, vs, rfl, .inr h2, by rw [h3.len]; exact o.int⟩
def rInt1 : List V → Hp → VK → Prop := fun xs H Q => (∃ i, xs = [.int i] ∧ Q (.int i) H) ∨ ∃ k, xs = [.bl k] ∧ Q (.int (if k then 1 else 0)) H
theorem b_int : CB c rInt1 intD := by
  intro H0 H xs ds dz Q s e h o
  match ds, e with
  | [.int i], e =>
    cases e
    obtain ⟨v, rfl, h1⟩ := h.one
    cases h1
    exact .inl ⟨i, rfl, o.int⟩
  | [.bl b], e =>
    cases e
    obtain ⟨v, rfl, h1⟩ := h.one
    cases h1
    exact .inr ⟨b, rfl, o.int⟩
theorem b_abs : CB c (fun xs H Q => ∃ i, xs = [.int i] ∧ Q (.int (if i < 0 then -i else i)) H) absD := by
  intro H0 H xs ds dz Q s e h o
  match ds, e with
  | [.int i], e =>
    cases e
    obtain ⟨v, rfl, h1⟩ := h.one
    cases h1
    exact ⟨i, rfl, o.int⟩
theorem b_max2 : CB c (fun xs H Q => ∃ i j, xs = [.int i, .int j] ∧ Q (.int (if j > i then j else i)) H) max2D := by
  intro H0 H xs ds dz Q s e h o
  match ds, e with
  | [.int i, .int j], e =>
    cases e
    obtain ⟨v, w, rfl, h1, h2⟩ := h.two
    cases h1
    cases h2
    exact ⟨i, j, rfl, o.int⟩
theorem b_min2 : CB c (fun xs H Q => ∃ i j, xs = [.int i, .int j] ∧ Q (.int (if j < i then j else i)) H) min2D := by
  intro H0 H xs ds dz Q s e h o
  match ds, e with
  | [.int i, .int j], e =>
    cases e
    obtain ⟨v, w, rfl, h1, h2⟩ := h.two
    cases h1
    cases h2
    exact ⟨i, j, rfl, o.int⟩
end
section
variable {X : Cx} {pins : List (Addr × Obj)} {σ : St} {H : Hp} {s : Shared} {p : Addr} {xs : List V}
theorem sq_lst (I : Inv X pins σ H s) (h : SqL X.K H p xs) : ∃ (its : List Value) (n : Nat) (sl : Array (Option Value)), xs.length ≤ sizeLine ∧ Vals xs its ∧ xs.length = its.length ∧ s.heap.get? p = some ⟨.type "list", none, .seq its.toArray n, sl⟩ := by
  obtain ⟨its, r, ⟨⟨oc, od, dt, sl⟩, n, e, hc, hd, hs⟩, hz⟩ := I.list h
  simp only at hc hd hs
  subst hc hd hs
  exact ⟨its, n, sl, hz, r, r.length, e⟩
end
theorem ext_any (l b : Addr) (xs ys : Array Value) (n m : Nat) (sl : Array (Option Value)) (h0 : ¬(!xs.isEmpty && Builtin.List.listTooLong (xs.size + ys.size)) = true) (h1 : xs.size ≤ sizeLine) (h2 : xs.size + ys.size ≤ sizeLine + 1) :
    Meets (Builtin.«list.extend» ⟨[.ref l, .ref b], []⟩) (fun _ R s => s.heap.get? l = some { cls := .type "list", dict := none, data := .seq xs n, slots := #[] } ∧ s.heap.get? b = some ⟨.type "list", none, .seq ys m, sl⟩ ∧
      R (.ok (.ret Value.none)) { s with heap := s.heap.update l (Obj.mapSeq fun x => x ++ ys), toks := s.toks }) :=
  .of_wp fun prog w A R s h => by
    obtain ⟨hp, g, d, tk, os⟩ := s
    obtain ⟨hl, hb, h⟩ := h
    have f1 := AutoSeq1.idx_int; have f2 := AutoSeq1.sub_tuple_tuple; have f3 := AutoSeq1.sub_list_list; have f4 := AutoSeq1.sub_tuple_list; have f5 := AutoSeq1.sub_list_tuple
    have hz : (xs ++ ys).size ≤ sizeLine + 1 := by rw [Array.size_append]; exact h2
    wp_walk using (wpAny_updateSeq hl rfl (hz := h1) (_hz' := hz)), AutoSeq1.wpAny_loadPart' hl, AutoSeq1.wpAny_loadPart' hb
    exact ⟨_, rfl, h⟩
/-- xs + ys of lists -/
def rCatR (K : PySem.W.Frag) : R2 := fun x y H Q => ∃ l b xs zs, x = .ref l ∧ y = .ref b ∧ SqL K H l xs ∧ SqL K H b zs ∧ xs.length + zs.length ≤ sizeLine ∧ ∀ p, H p = none → Q (.ref p) (upd H p (.lst (xs ++ zs)))
theorem op_catR {X : Cx} : OpR X (binaryOp .Add) (rCatR X.K) := by
  rintro pins s σ H x y v u Q I rx ry ⟨l, b, xs, zs, e1, e2, hl, hb, few, q⟩
  subst e1 e2
  cases rx
  cases ry
  have ⟨is1, n1, sl1, _, r1, len1, at_l⟩ := sq_lst I hl
  have ⟨is2, n2, sl2, _, r2, len2, at_b⟩ := sq_lst I hb
  have both : is1.toArray ++ is2.toArray = (is1 ++ is2).toArray := List.append_toArray ..
  have size : is1.toArray.size + is2.toArray.size ≤ sizeLine := by
    rw [List.size_toArray, List.size_toArray, ← len1, ← len2]
    exact few
  have adds := list_addW l b is1.toArray is2.toArray n1 n2 none none sl1 sl2 size
  refine concat_meets ⟨_, at_l, rfl⟩ ⟨_, at_b, rfl⟩ noFill_list_add seq_list_add PySem.F.slot_list_add PySem.F.entry_list_add (PySem.F.args_list_add_2 _ _) adds ⟨at_l, at_b, ?_⟩
  rw [both]
  refine ⟨.ref _, _, I.lnew (r1.append r2) ?_, rfl, q _ I.fresh⟩
  rw [List.length_append]
  exact few
theorem v_cat {c : Cn} : LOp2 c (rCatR c.K) catL := by
  intro H0 H x y dx dy l Q s e hx hy nl
  match dx, dy, e with
  | .lst a, .lst b, e =>
    obtain ⟨h1, p1, vs, rfl, h2, h3⟩ := hx
    obtain ⟨g1, p2, ws, rfl, g2, g3⟩ := hy
    have e : (if a.length + b.length ≤ lim then some (a ++ b) else none) = some l := e
    by_cases hl : a.length + b.length ≤ lim
    · rw [if_pos hl] at e
      cases e
      refine ⟨p1, p2, vs, ws, rfl, rfl, h2, g2, by rw [h3.len, g3.len, sizeLine_lim]; exact hl, fun p hp => nl p _ hp (by simpa using hl) (Dats.app h3 g3)⟩
    · rw [if_neg hl] at e
      cases e
/-! ### a name's own list -/
def rExtR (K : PySem.W.Frag) : V → List V → Hp → VK → Prop := fun x vs H Q => ∃ l b xs zs, x = .ref l ∧ vs = [.ref b] ∧ H l = some (.lst xs) ∧ SqL K H b zs ∧ xs.length + zs.length ≤ sizeLine ∧ Q .non (upd H l (.lst (xs ++ zs)))
theorem mt_extR {X : Cx} : MtR X "list.extend" (rExtR X.K) := by
  rintro pins s σ H x vs v us Q I rx rv ⟨l, b, xs, zs, e1, e2, hl, hb, few, q⟩
  subst e1 e2
  cases rx
  obtain ⟨u, e3, ru⟩ := rv.one
  subst e3
  cases ru
  have ⟨_, is1, n1, r1, len1, at_l⟩ := I.lstM hl
  have ⟨is2, n2, sl2, _, r2, len2, at_b⟩ := sq_lst I hb
  have size : is1.toArray.size + is2.toArray.size ≤ sizeLine := by
    rw [List.size_toArray, List.size_toArray, ← len1, ← len2]
    exact few
  have short : ¬(!is1.toArray.isEmpty && Builtin.List.listTooLong (is1.toArray.size + is2.toArray.size)) = true := fun z => by
    rw [notLongL size, Bool.and_false] at z
    cases z
  have ext := ext_any l b is1.toArray is2.toArray n1 n2 sl2 short (Nat.le_trans (Nat.le_add_right _ _) size) (Nat.le_succ_of_le size)
  have len : (xs ++ zs).length ≤ sizeLine := by
    rw [List.length_append]
    exact few
  have is_l : s.TypeIs (.ref l) "list" := ⟨_, at_l, rfl⟩
  refine call_meets F.slot_list_extend is_l F.entry_list_extend (F.args_list_extend_2 _ _) ext ⟨at_l, at_b, .non, _, I.lset hl at_l (List.append_toArray ..) (r1.append r2) len, rfl, q⟩
section
variable {c : Cn}
theorem m_ext : MOp1 c (rExtR c.K) extF := by
  intro H0 H p l vs x d y l' Q s e hl hp hv hy q
  match x, e with
  | .lst m, e =>
    have e : (if l.length + m.length ≤ lim then some (D.non, l ++ m) else none) = some (d, l') := e
    obtain ⟨h1, p2, ws, rfl, g2, g3⟩ := hy
    by_cases h : l.length + m.length ≤ lim
    · rw [if_pos h] at e
      cases e
      exact ⟨p, p2, vs, ws, rfl, rfl, hp, SqL.same s g2, by rw [hv.len, g3.len, sizeLine_lim]; exact h, q _ _ (by simpa using h) (Dats.app hv g3) rfl⟩
    · rw [if_neg h] at e
      cases e
end
end F
end

section
set_option Elab.async false
set_option linter.all false
set_option autoImplicit false
set_option maxRecDepth 100000
/-! F layer, part J: what is walked. -/
namespace F
open PySem PySem.Spec PyProof.Rows L2
/-! ### enumerate over a text -/
def IteS (z : Str) : It := ⟨fun i _ => i < z.cps.size, fun i H v H' => ∃ T c, v = .ref T ∧ H T = none ∧ H' = upd H T (.tup [.int (i : Nat), .str ⟨#[c]⟩]) ∧ z.cps[i]? = some c, fun i _ => i = z.cps.size⟩
/-- a text's iterator draws its signs -/
theorem draws_signs {P : Program} {w : World} {A : Around} (hh : A.handled = none) (z : Str) (t : Tok) (it : Addr) :
    Draws P w A it [it] z.cps.size (fun i v => ∃ c u, z.cps[i]? = some c ∧ v = .str ⟨#[c]⟩ u) (fun i h => h.IsStrIter it (strIterType z) z t i) := by
  unfold strIterType
  by_cases h : z.cps.all (· < 128) = true
  all_goals split
  all_goals first
    | exact Draws.strAscii hh it z t
    | exact Draws.strWide hh it z t
theorem turn_enumS {P : Program} {w : World} {K : PySem.W.Frag} {elts : List Expr} {kk : Nat} {tpos : Pos} (z : Str) (t : Tok) (e it : Addr) :
    Turn P w K (.Tuple elts kk tpos) (IteS z) [e, it] e (fun i h => (∃ old, IsEnum h e it ((i : Nat) : Int) old) ∧ h.IsStrIter it (strIterType z) z t i ∧ e ≠ it) where
  mem := List.mem_cons_self
  obj := by
    rintro i h ⟨⟨old, he⟩, ⟨o, ho, _, hd⟩, _⟩ b hb
    rcases List.mem_cons.mp hb with e1 | hb
    · subst e1
      exact ⟨_, he, fun v q => nomatch q⟩
    · cases List.mem_singleton.mp hb
      refine ⟨o, ho, fun v q => ?_⟩
      rw [hd] at q
      cases q
  keep := by
    rintro i h h' ⟨⟨old, he⟩, ⟨o, ho, r⟩, ne⟩ k
    exact ⟨⟨old, k e List.mem_cons_self _ he⟩, ⟨o, k it (List.mem_cons_of_mem _ List.mem_cons_self) o ho, r⟩, ne⟩
  item := by
    rintro X eP ew eK hc i pins s σ H E I hf ⟨⟨old, he⟩, hit, ne⟩ hg
    subst eP ew eK
    have lt_e := Heap.lt_size he
    have lt_it : it < s.heap.objs.size := hit.elim fun _ q => Heap.lt_size q.1
    have out : e ∉ [it] := fun q => ne (List.mem_singleton.mp q)
    refine wpAny_pyNext_enum_itemD (draws_signs (A := X.A.in1) (show X.A.in1.handled = none from I.ok.hd hc) z t it) he hit hg ne out fun u h' tk ⟨c, tu, at_i, eu⟩ ho hit' hT size keep => ?_
    subst eu
    refine ⟨_, rfl, wpAny_letOwnedTupleGo_enum (s := { s with heap := h', toks := tk + 1 }) ho fun h2 he2 sb => ?_⟩
    have pair := (sb.2 _ (Nat.ne_of_gt lt_e)).trans hT
    have fresh := I.hok.fresh (Nat.le_refl s.heap.objs.size)
    have still : ∀ b o, b ∉ [e, it] → s.heap.get? b = some o → h2.get? b = some o := fun b o nb q => by
      have n1 : b ≠ e := fun z => nb (z ▸ List.mem_cons_self)
      have n2 : b ≠ it := fun z => nb (z ▸ List.mem_cons_of_mem _ List.mem_cons_self)
      refine (sb.2 b n1).trans (keep b o n1 ?_ q)
      simpa using n2
    have J := I.turnedNew (T := s.heap.objs.size) (ob := .tup [.int (i : Nat), .str ⟨#[c]⟩]) (t' := tk + 1) still hf (Nat.le_refl _) ⟨show 2 ≤ sizeLine by decide, [.int i tk, .str ⟨#[c]⟩ tu], .cons ⟨_, rfl⟩ (.cons ⟨_, rfl⟩ .nil), ⟨_, pair, rfl, _, rfl⟩⟩
    have ⟨oi, hoi, ri⟩ := hit'
    refine ⟨.ref s.heap.objs.size, _, J, rfl, ⟨_, c, rfl, fresh, rfl, at_i⟩, ⟨⟨_, he2⟩, ⟨oi, (sb.2 it ne.symm).trans hoi, ri⟩, ne⟩, fun b hb => ?_⟩
    have lt_b : b < s.heap.objs.size := by
      rcases List.mem_cons.mp hb with z | hb
      · exact z ▸ lt_e
      · exact List.mem_singleton.mp hb ▸ lt_it
    exact (upd_ne (Nat.ne_of_lt lt_b)).trans (hf b hb).1
  done := by
    rintro X eP ew eK hc i pins s σ H E I hf ⟨⟨old, he⟩, hit, ne⟩ hg
    subst eP ew eK
    cases hg
    have ⟨a0, a1, _, a2, a3, a4⟩ := hf it (List.mem_cons_of_mem _ List.mem_cons_self)
    exact wpAny_pyNext_enum_endD (draws_signs (A := X.A.in1) (show X.A.in1.handled = none from I.ok.hd hc) z t it) he hit fun h' ext => ⟨rfl, I.turned (t' := s.toks) ext a0 a1 a2 a3 a4⟩
  self := by
    rintro A i s Q E ⟨⟨_, he⟩, _⟩ q
    exact wpAny_pyIter_enum he q
def iEnumS (ta : TA) : TI := fun σ H R => ta σ H fun vs H1 => ∃ z, vs = [.str z] ∧ R (IteS z) H1
theorem pi_enumS {X : Cx} {e : Expr} {ta : TA} {p pos tpos : Pos} {elts : List Expr} {kk : Nat} (hg : Gl X "enumerate") (hm : X.mg "enumerate" = none) (ha : PA X [e] ta) (hs : starEach [e] X.env = [(false, eval e X.env)] := by rfl) :
    PI X (.Tuple elts kk tpos) (.Call (.Name "enumerate" p) [e] [] pos) (iEnumS ta) := by
  constructor
  intro pins s σ H R I h
  refine Call_ (ld_blt I hg hm boot_enumerate (PyProof.Rows.callWith_type1 ?_ hs rfl))
  refine thn (ha.run pos pins s σ H _ I h) fun us s1 ⟨vs, H1, I1, r1, z, ez, q⟩ => ?_
  subst ez
  rcases r1 with _ | ⟨⟨t, et⟩, _ | _⟩
  subst et
  refine call_enumerate_str fun h' he hit _ keep => wpAny_pyIter_enum he ?_
  refine ⟨_, [s1.heap.objs.size + 1, s1.heap.objs.size], _, _, H1, rfl, I1.kept keep, turn_enumS z t _ s1.heap.objs.size, ⟨⟨.none, he⟩, hit, Nat.succ_ne_self _⟩, fun b hb => ?_, q⟩
  have le : s1.heap.objs.size ≤ b := by
    rcases List.mem_cons.mp hb with e | hb
    · exact e ▸ Nat.le_succ _
    · exact Nat.le_of_eq (List.mem_singleton.mp hb).symm
  exact I1.fpOk le (I1.hok.fresh le)
theorem walk_enumS {z : Str} : Walk (IteS z) z.cps.size (fun _ => True) (fun i H v H' => ∃ T c, v = .ref T ∧ H T = none ∧ H' = upd H T (.tup [.int (i : Nat), .str ⟨#[c]⟩]) ∧ z.cps[i]? = some c) :=
  ⟨fun i H hi _ => hi, fun H _ => rfl, fun i H x H' _ _ y => y⟩
/-! ### what is walked -/
theorem same_upd {H : Hp} {p : Addr} {o : HO} (h : H p = none) : Same H (upd H p o) := fun b u e => by
  by_cases z : b = p
  · rw [z, h] at e; cases e
  · rw [upd_ne z]; exact e

section
variable {X : Cx} {t : Tb} {W : WX} {a : Expr} {ma : M R} {tg : Expr} {pos p : Pos}
def ItOp (c : Cn) (u : V → Hp → (It → Hp → Prop) → Prop) (f : D → Option (List D)) : Prop := ∀ (H0 H : Hp) (x : V) (dx : D) (l : List D) (Rr : It → Hp → Prop), Same H0 H → f dx = some l → Dat c H0 dx x → (∀ J, WkD c H0 J l → Rr J H) → u x H Rr
theorem tI_it {u : V → Hp → (It → Hp → Prop) → Prop} {f : D → Option (List D)} (h : ItOp (cn X t) u f) {σ : St} {H : Hp} {Rr : It → Hp → Prop} (q : tIt t (cn X t) W (mIt f ma) σ H Rr) : tI X t W ma σ H fun x H1 => u x H1 Rr := by
  obtain ⟨e, H0, Fr, as, rp, po⟩ := q
  refine ⟨e, H0, Fr, as, rp, Po.bind (f := fun r e1 => andThen (leak r e1) fun d e2 => ofO (f d) fun l => .ok l e2) po fun ra e1 v H1 H' s rr po => ?_⟩
  obtain ⟨d, e2, H2, as, q, s2, rp, hd, po⟩ := po.leak rr
  obtain ⟨l, e3, po⟩ := po.ofO
  exact h H2 H' v d l Rr rp.sub e3 hd fun J wk => po.ret (Same.refl _) ⟨⟨as, rp⟩, wk⟩
/-- the one argument of a call -/
theorem tI_it1 {u : List V → Hp → (It → Hp → Prop) → Prop} {f : D → Option (List D)} (h : ItOp (cn X t) (fun x H Rr => u [x] H Rr) f) {σ : St} {H : Hp} {Rr : It → Hp → Prop} (q : tIt t (cn X t) W (mIt f ma) σ H Rr) :
    tG t (cn X t) W (rrDs (cn X t)) (mLks [ma]) σ H fun vs H1 => u vs H1 Rr := by
  obtain ⟨e, H0, Fr, as, rp, po⟩ := q
  refine ⟨e, H0, Fr, as, rp, ?_⟩
  have po : Po t (cn X t) W Fr σ H0 _ Rr (andThen (ma e) fun r e1 => andThen (leak r e1) fun d e2 => ofO (f d) fun l => .ok l e2) := po
  have go : Po t (cn X t) W Fr σ H0 (rrDs (cn X t) Fr σ) (fun vs H1 => u vs H1 Rr) (andThen (ma e) fun r e1 => andThen (leak r e1) fun d e2 => .ok [d] e2) := by
    cases q0 : ma e with
    | ok ra e1 =>
      rw [q0] at po
      have po : Po t (cn X t) W Fr σ H0 _ Rr (andThen (leak ra e1) fun d e2 => ofO (f d) fun l => .ok l e2) := po
      show Po t (cn X t) W Fr σ H0 _ _ (andThen (leak ra e1) fun d e2 => .ok [d] e2)
      cases q1 : leak ra e1 with
      | ok d e2 =>
        rw [q1] at po
        rintro vs H1 H' s ⟨⟨as1, rp1⟩, v, vs', rfl, hd, k2⟩
        have k2 : vs' = [] := k2
        subst k2
        obtain ⟨l, e3, po⟩ := Po.ofO po
        exact h H1 H' v d l Rr rp1.sub e3 hd fun J wk => po J H1 H' s ⟨⟨as1, rp1⟩, wk⟩
      | ex k' p e1 =>
        rw [q1] at po
        exact po
      | bad =>
        rw [q1] at po
        exact po.elim
    | ex k' p e1 =>
      rw [q0] at po
      exact po
    | bad =>
      rw [q0] at po
      exact po.elim
  exact go
theorem wk_mk {c : Cn} {H0 : Hp} {J : It} {l : List D} {n : Nat} {G : Hp → Prop} {Y : Nat → Hp → V → Hp → Prop} (w : Walk J n G Y) (hn : n = l.length) (hG : ∀ H2 H', Same H0 H2 → Same H2 H' → G H')
    (hY : ∀ i H2 H' x H'', i < l.length → Same H0 H2 → Same H2 H' → Y i H' x H'' → ∃ d, l[i]? = some d ∧ ((H'' = H' ∧ Dat c H2 d x) ∨ ∃ p o, x = .ref p ∧ H' p = none ∧ H'' = upd H' p o ∧ Dat c (upd H2 p o) d x)) : WkD c H0 J l := by
  subst hn
  exact ⟨G, Y, w, hG, hY⟩
theorem wk_of {c : Cn} {H0 : Hp} {J : It} {l : List D} {vs : List V} {n : Nat} {G : Hp → Prop} (w : Walk J n G (YAt vs)) (hn : n = l.length) (hd : Dats c H0 l vs) (hG : ∀ H2 H', Same H0 H2 → Same H2 H' → G H') : WkD c H0 J l := by
  subst hn
  refine ⟨G, _, w, hG, ?_⟩
  rintro i H2 H' x H'' hi s1 s2 ⟨rfl, hx⟩
  obtain ⟨v, g1, g2⟩ := hd.get (List.getElem?_eq_getElem hi)
  rw [hx] at g1
  cases g1
  exact ⟨l[i], List.getElem?_eq_getElem hi, .inl ⟨rfl, Dat.mono s1 _ _ g2⟩⟩
theorem it_list {c : Cn} : ItOp c (fun x H1 Rr => ∃ a, x = .ref a ∧ (∃ xs, SqL c.K H1 a xs) ∧ Rr (Itl c.K a) H1) itL := by
  intro H0 H x dx l Rr s e hd q
  match dx, e with
  | .lst l, e =>
    cases e
    obtain ⟨hl, a, vs, rfl, h2, h3⟩ := hd
    exact ⟨a, rfl, ⟨vs, SqL.same s h2⟩, q _ (wk_of walk_list h3.len h3 fun H2 H' s1 s2 => SqL.same (s1.trans s2) h2)⟩
theorem it_tup {c : Cn} : ItOp c (fun x H1 Rr => ∃ a, x = .ref a ∧ (∃ xs, SqT c.K H1 a xs) ∧ Rr (Itt c.K a) H1) itT := by
  intro H0 H x dx l Rr s e hd q
  match dx, e with
  | .tup l, e =>
    cases e
    obtain ⟨hl, a, vs, rfl, h2, h3⟩ := hd
    exact ⟨a, rfl, ⟨vs, SqT.same s h2⟩, q _ (wk_of walk_tup h3.len h3 fun H2 H' s1 s2 => SqT.same (s1.trans s2) h2)⟩
theorem sS_at {x : List Nat} {i c : Nat} (h : (sS x).cps[i]? = some c) : x[i]? = some c := by
  have : x.toArray[i]? = some c := h
  simpa using this
theorem it_str {c : Cn} : ItOp c (fun v H1 Rr => ∃ x, v = .str x ∧ Rr (Its x) H1) itS := by
  intro H0 H x dx l Rr s e hd q
  match dx, e with
  | .str z, e =>
    cases e
    obtain ⟨rfl, hl⟩ := hd
    refine ⟨sS z, rfl, q _ (wk_mk (walk_str (z := sS z)) (by simp [sS]) (fun _ _ _ _ => trivial) ?_)⟩
    · rintro i H2 H' x H'' hi s1 s2 ⟨rfl, cc, hc, rfl⟩
      have hc := sS_at hc
      refine ⟨.str [cc], by simp [hc], .inl ⟨rfl, rfl, by show 1 ≤ lim; decide⟩⟩
theorem enumF_at : ∀ (n : Nat) (l : List D) (i : Nat), (enumF n l)[i]? = l[i]?.map fun d => .tup [.int ((n + i : Nat) : Int), d]
  | n, [], i => by simp [enumF]
  | n, d :: l, 0 => by simp [enumF]
  | n, d :: l, i + 1 => by
    simp only [enumF, List.getElem?_cons_succ]
    rw [enumF_at (n + 1) l i]
    have : n + 1 + i = n + (i + 1) := by omega
    rw [this]
theorem enumF_len : ∀ (n : Nat) (l : List D), (enumF n l).length = l.length
  | _, [] => rfl
  | n, d :: l => by simp [enumF, enumF_len (n + 1) l]
theorem dat_pair {c : Cn} {H : Hp} {p : Addr} {a b : D} {x y : V} (s : ∀ d v, Dat c H d v → Dat c (upd H p (.tup [x, y])) d v) (ha : Dat c H a x) (hb : Dat c H b y) : Dat c (upd H p (.tup [x, y])) (.tup [a, b]) (.ref p) :=
  ⟨by show 2 ≤ lim; decide, p, [x, y], rfl, SqT.of upd_same, x, [y], rfl, s _ _ ha, y, [], rfl, s _ _ hb, rfl⟩
theorem it_enumS {c : Cn} : ItOp c (fun v H1 Rr => ∃ z, [v] = [.str z] ∧ Rr (IteS z) H1) itES := by
  intro H0 H x dx l Rr s e hd q
  match dx, e with
  | .str z, e =>
    cases e
    obtain ⟨rfl, hl⟩ := hd
    refine ⟨sS z, rfl, q _ (wk_mk (walk_enumS (z := sS z)) (by simp [sS, enumF_len]) (fun _ _ _ _ => trivial) ?_)⟩
    · rintro i H2 H' x H'' hi s1 s2 ⟨T, cc, rfl, hT, rfl, hc⟩
      have hc := sS_at hc
      have hT2 : H2 T = none := by
        cases q : H2 T with
        | none => rfl
        | some o => rw [s2 _ _ q] at hT; cases hT
      refine ⟨.tup [.int (i : Nat), .str [cc]], by rw [enumF_at]; simp [hc], .inr ⟨T, _, rfl, hT, rfl, ?_⟩⟩
      exact dat_pair (fun d v h => Dat.mono (same_upd hT2) _ _ h) rfl ⟨rfl, by show 1 ≤ lim; decide⟩
theorem it_enumL {c : Cn} : ItOp c (fun v H1 Rr => ∃ a xs, [v] = [.ref a] ∧ SqL c.K H1 a xs ∧ Rr (Ite c.K a) H1) itEL := by
  intro H0 H x dx l Rr s e hd q
  match dx, e with
  | .lst l, e =>
    cases e
    obtain ⟨hl, a, vs, rfl, h2, h3⟩ := hd
    refine ⟨a, vs, rfl, SqL.same s h2, q _ (wk_mk (walk_enum (K := c.K) (a := a) (xs := vs)) (by rw [enumF_len, h3.len]) (fun H2 H' s1 s2 => SqL.same (s1.trans s2) h2) ?_)⟩
    · rintro i H2 H' x H'' hi s1 s2 ⟨T, x1, y1, rfl, hT, rfl, e1, e2⟩
      cases e1
      have e2 : vs[i]? = some y1 := e2
      rw [enumF_len] at hi
      obtain ⟨v, g1, g2⟩ := h3.get (List.getElem?_eq_getElem hi)
      rw [e2] at g1
      cases g1
      have hT2 : H2 T = none := by
        cases q : H2 T with
        | none => rfl
        | some o => rw [s2 _ _ q] at hT; cases hT
      refine ⟨.tup [.int (i : Nat), l[i]], by rw [enumF_at]; simp [List.getElem?_eq_getElem hi], .inr ⟨T, _, rfl, hT, rfl, ?_⟩⟩
      exact dat_pair (fun d v h => Dat.mono (same_upd hT2) _ _ h) rfl (Dat.mono s1 _ _ g2)
theorem rngF_len : ∀ (lo : Int) (n : Nat), (rngF lo n).length = n
  | _, 0 => rfl
  | lo, n + 1 => by simp [rngF, rngF_len (lo + 1) n]
theorem rngF_at : ∀ (lo : Int) (n i : Nat), i < n → (rngF lo n)[i]? = some (.int (lo + i))
  | _, 0, _, h => absurd h (Nat.not_lt_zero _)
  | lo, n + 1, 0, _ => by simp [rngF]
  | lo, n + 1, i + 1, h => by
    simp only [rngF, List.getElem?_cons_succ]
    rw [rngF_at (lo + 1) n i (Nat.lt_of_succ_lt_succ h)]
    have : lo + 1 + (i : Int) = lo + ((i + 1 : Nat) : Int) := by omega
    rw [this]
theorem wk_rng {c : Cn} {H0 : Hp} {lo : Int} {n : Nat} : WkD c H0 (Itr lo n) (rngF lo n) := by
  refine wk_mk (walk_range (lo := lo) (n := n)) (rngF_len _ _).symm (fun _ _ _ _ => trivial) ?_
  · rintro i H2 H' x H'' hi s1 s2 ⟨rfl, rfl⟩
    rw [rngF_len] at hi
    exact ⟨_, rngF_at _ _ _ hi, .inl ⟨rfl, rfl⟩⟩
theorem it_rng1 {c : Cn} : ItOp c (fun v H1 Rr => ∃ j : Int, [v] = [.int j] ∧ -(2 ^ 62) ≤ j ∧ j < 2 ^ 62 ∧ Rr (Itr 0 j.toNat) H1) itR1 := by
  intro H0 H x dx l Rr s e hd q
  match dx, e with
  | .int j, e =>
    have e : (if -4611686018427387904 ≤ j ∧ j < 4611686018427387904 then some (rngF 0 j.toNat) else none) = some l := e
    by_cases h : -4611686018427387904 ≤ j ∧ j < 4611686018427387904
    · rw [if_pos h] at e
      cases e
      cases hd
      exact ⟨j, rfl, by omega, by omega, q _ wk_rng⟩
    · rw [if_neg h] at e
      cases e
theorem si_list (h : SE X t W a ma) : SI X t W tg a (mIt itL ma) := PI.imp (pi_list h) fun σ H Q q => tI_it it_list q
theorem si_tup (h : SE X t W a ma) : SI X t W tg a (mIt itT ma) := PI.imp (pi_tup h) fun σ H Q q => tI_it it_tup q
theorem si_str (h : SE X t W a ma) : SI X t W tg a (mIt itS ma) := PI.imp (pi_str h) fun σ H Q q => tI_it it_str q
variable {elts : List Expr} {kk : Nat} {tpos : Pos}
theorem si_enumS (hg : Gl X "enumerate") (hm : X.mg "enumerate" = none) (h : SE X t W a ma) (hs : starEach [a] X.env = [(false, eval a X.env)] := by rfl) : SI X t W (.Tuple elts kk tpos) (.Call (.Name "enumerate" p) [a] [] pos) (mIt itES ma) :=
  PI.imp (pi_enumS hg hm (sd_cons h sd_nil hs) hs) fun σ H Q q => tI_it1 (u := fun vs H1 Rr => ∃ z, vs = [.str z] ∧ Rr (IteS z) H1) it_enumS q
theorem si_enumL (hg : Gl X "enumerate") (hm : X.mg "enumerate" = none) (h : SE X t W a ma) (hs : starEach [a] X.env = [(false, eval a X.env)] := by rfl) : SI X t W (.Tuple elts kk tpos) (.Call (.Name "enumerate" p) [a] [] pos) (mIt itEL ma) :=
  PI.imp (pi_enum hg hm (sd_cons h sd_nil hs) hs) fun σ H Q q => tI_it1 (u := fun vs H1 Rr => ∃ b xs, vs = [.ref b] ∧ SqL X.K H1 b xs ∧ Rr (Ite X.K b) H1) it_enumL q
theorem si_rng1 (hg : Gl X "range") (hm : X.mg "range" = none) (h : SE X t W a ma) (hs : starEach [a] X.env = [(false, eval a X.env)] := by rfl) : SI X t W tg (.Call (.Name "range" p) [a] [] pos) (mIt itR1 ma) :=
  PI.imp (pi_range1 hg hm (sd_cons h sd_nil hs) hs) fun σ H Q q => tI_it1 (u := fun vs H1 Rr => ∃ j : Int, vs = [.int j] ∧ -(2 ^ 62) ≤ j ∧ j < 2 ^ 62 ∧ Rr (Itr 0 j.toNat) H1) it_rng1 q
end
end F
end

section
set_option Elab.async false
set_option linter.all false
set_option autoImplicit false
set_option maxRecDepth 100000
/-! F layer, part K: methods of texts, slices, dicts, isinstance. -/
namespace F
open PySem PySem.Spec PyProof.Rows L2
section
variable {X : Cx} {t : Tb} {W : WX} {o a b : Expr} {mo ma mb : M R} {pos p : Pos}
/-! ### a method of a text -/
def SMt1 (c : Cn) (r : V → List V → Hp → VK → Prop) (f : List Nat → D → Option D) : Prop := ∀ (H0 H : Hp) (x : List Nat) (y : V) (dy dz : D) (Q : VK), Same H0 H → x.length ≤ lim → f x dy = some dz → Dat1 c H0 H dy y → Out c H0 H dz Q → r (.str (sS x)) [y] H Q
theorem se_sm1 {id : String} {name : Str} {apos : Pos} {r : V → List V → Hp → VK → Prop} {f : List Nat → D → Option D} (slot : Slot "str" name id) (ty : typeOf (.builtin id) = pure (.type "method_descriptor")) (rule : MtR X id r) (h : SMt1 (cn X t) r f) (ho : SE X t W o mo) (ha : SE X t W a ma)
    (hs : starEach [a] X.env = [(false, eval a X.env)] := by rfl) (hbase : attributeBase o name X.env (eval o X.env) = eval o X.env := by rfl) (hline : (apos.endLine == pos.line) = true := by rfl) :
    SE X t W (.Call (.Attribute o name apos) [a] [] pos) (mSm1 f mo ma) := by
  refine PE.imp (pe_m1 slot ty rule ho ha hs hbase hline) fun σ H Q ⟨e, H0, Fr, as, rp, po⟩ => ?_
  refine ⟨e, H0, Fr, as, rp, po.bind fun ra e1 v H1 H' s rr po => ?_⟩
  match q : peek ra e1, po with
  | some (.str x), po =>
    obtain ⟨H2, as, s2, rp, hd⟩ := RpR.peek rr q
    obtain ⟨rfl, hl⟩ := hd
    refine ⟨⟨_, rfl⟩, e1, H2, Fr, as, rp, (po.mono s2).bind fun rb e2 w H3 H'' s3 rr2 po => ?_⟩
    obtain ⟨dy, q2, po⟩ := po.ofO
    obtain ⟨dz, q3, po⟩ := po.ofO
    obtain ⟨H4, as, s4, rp, hd⟩ := RpR.peek rr2 q2
    exact h H4 H'' x w dy dz Q rp.sub hl q3 hd ((po.mono s4).out rp)
theorem joinN_eq (s : List Nat) : ∀ l : List (List Nat), joinN s l = TL.joinL s l
  | [] => rfl
  | [_] => rfl
  | p :: q :: r => by
    show p ++ (s ++ joinN s (q :: r)) = p ++ (s ++ TL.joinL s (q :: r))
    rw [joinN_eq s (q :: r)]
theorem strsOf_vals {c : Cn} {H : Hp} : ∀ {l : List D} {xs : List (List Nat)} {vs : List V}, strsOf l = some xs → Dats c H l vs → vs = (xs.map sS).map V.str
  | [], xs, vs, e, h => by
    cases e
    exact h
  | d :: l, xs, vs, e, h => by
    match d, e with
    | .str x, e =>
      have e : (strsOf l).map (x :: ·) = some xs := e
      obtain ⟨ys, e1, rfl⟩ := Option.map_eq_some_iff.mp e
      obtain ⟨v, r, rfl, ⟨rfl, _⟩, h3⟩ := h
      rw [strsOf_vals e1 h3]
      rfl
theorem lens_sS : ∀ xs : List (List Nat), (xs.map sS).map (·.length) = xs.map List.length
  | [] => rfl
  | x :: xs => by
    rw [List.map_cons, List.map_cons, List.map_cons, lens_sS xs]
    rfl
theorem join_sS (s : List Nat) (xs : List (List Nat)) : Txt.join (sS s) (xs.map sS) = sS (joinN s xs) := by
  rw [joinN_eq]
  exact SX.join_S s xs
theorem joinN_len (s : List Nat) : ∀ xs : List (List Nat), (joinN s xs).length ≤ (xs.map List.length).sum + xs.length * s.length
  | [] => Nat.zero_le _
  | [p] => by simp [joinN]
  | p :: q :: r => by
    have := joinN_len s (q :: r)
    simp only [joinN, List.length_append, List.map_cons, List.sum_cons, List.length_cons] at this ⊢
    have e : (r.length + 1 + 1) * s.length = (r.length + 1) * s.length + s.length := by rw [Nat.add_mul, Nat.one_mul]
    omega
theorem sm_join {c : Cn} : SMt1 c (fun x xs H Q => ∃ a p, ∃ ys : List Str, x = .str a ∧ xs = [.ref p] ∧ (SqL c.K H p (ys.map V.str) ∨ SqT c.K H p (ys.map V.str)) ∧ (ys.map (·.length)).sum + ys.length * a.length ≤ 16777216 ∧ Q (.str (Txt.join a ys)) H)
    (fun x y => joinD (.str x) y) := by
  intro H0 H x y dy dz Q s hl e hd o
  match dy, e with
  | .lst l, e =>
    obtain ⟨xs, e1, e⟩ := Option.bind_eq_some_iff.mp (show ((strsOf l).bind fun xs => if (xs.map List.length).sum + xs.length * x.length ≤ lim then some (D.str (joinN x xs)) else none) = some dz from e)
    by_cases h : (xs.map List.length).sum + xs.length * x.length ≤ lim
    · rw [if_pos h] at e
      cases e
      obtain ⟨_, q, vs, rfl, h2, h3⟩ := hd
      have ev := strsOf_vals e1 h3
      subst ev
      refine ⟨sS x, q, xs.map sS, rfl, rfl, .inl h2, ?_, ?_⟩
      · rw [lens_sS, List.length_map, sS_len]; exact h
      · rw [join_sS]
        exact o.str (Nat.le_trans (joinN_len x xs) h)
    · rw [if_neg h] at e
      cases e
  | .tup l, e =>
    obtain ⟨xs, e1, e⟩ := Option.bind_eq_some_iff.mp (show ((strsOf l).bind fun xs => if (xs.map List.length).sum + xs.length * x.length ≤ lim then some (D.str (joinN x xs)) else none) = some dz from e)
    by_cases h : (xs.map List.length).sum + xs.length * x.length ≤ lim
    · rw [if_pos h] at e
      cases e
      obtain ⟨_, q, vs, rfl, h2, h3⟩ := hd
      have ev := strsOf_vals e1 h3
      subst ev
      refine ⟨sS x, q, xs.map sS, rfl, rfl, .inr h2, ?_, ?_⟩
      · rw [lens_sS, List.length_map, sS_len]; exact h
      · rw [join_sS]
        exact o.str (Nat.le_trans (joinN_len x xs) h)
    · rw [if_neg h] at e
      cases e
/-! ### slices -/
def rrPt (c : Cn) : Hp → St → Hp → Hp → Env → Option Int → Option Int → Prop := fun Fr σ H1 H' e b a => b = a ∧ ∃ as, Rp c H1 Fr H' σ e as
abbrev SPt (X : Cx) (t : Tb) (W : WX) (e : Option Expr) (m : Option (M R)) : Prop := PO X e (tG t (cn X t) W (rrPt (cn X t)) (mPt m))
theorem PO.imp {X : Cx} {e : Option Expr} {u u' : TO} (h : PO X e u) (k : ∀ σ H Q, u' σ H Q → u σ H Q) : PO X e u' := ⟨fun pins s σ H Q I q => h.run pins s σ H Q I (k _ _ _ q)⟩
theorem spt_none : SPt X t W none none := PO.imp po_none fun σ H Q ⟨e, H0, Fr, as, rp, po⟩ => po none H0 H (Same.refl _) ⟨rfl, as, rp⟩
theorem spt_some (h : SE X t W a ma) : SPt X t W (some a) (some ma) := by
  refine PO.imp (po_some h) fun σ H Q ⟨e, H0, Fr, as, rp, po⟩ => ?_
  refine ⟨e, H0, Fr, as, rp, Po.bind (f := fun r e1 => match peek r e1 with
    | some (.int i) => .ok (some i) e1
    | _ => .bad) po fun ra e1 v H1 H' s rr po => ?_⟩
  match q : peek ra e1, po with
  | some (.int i), po =>
    obtain ⟨H2, as, s2, rp, hd⟩ := RpR.peek rr q
    exact ⟨i, hd, Po.mono s2 po (some i) H2 H' (Same.refl _) ⟨rfl, as, rp⟩⟩
def VSl (c : Cn) (r : V → Option Int → Option Int → Hp → VK → Prop) (f : D → Option Int → Option Int → Option D) : Prop := ∀ (H0 H : Hp) (x : V) (dx dz : D) (lo hi : Option Int) (Q : VK), Same H0 H → f dx lo hi = some dz → Dat1 c H0 H dx x → Out c H0 H dz Q → r x lo hi H Q
def LSl (c : Cn) (r : V → Option Int → Option Int → Hp → VK → Prop) (f : D → Option Int → Option Int → Option (List D)) : Prop := ∀ (H0 H : Hp) (x : V) (dx : D) (l : List D) (lo hi : Option Int) (Q : VK), Same H0 H → f dx lo hi = some l → Dat1 c H0 H dx x → NewL c H0 H l Q → r x lo hi H Q
section
variable {lo hi : Option Expr} {ml mh : Option (M R)} {p2 : Pos} {r : V → Option Int → Option Int → Hp → VK → Prop}
theorem se_sl {f : D → Option Int → Option Int → Option D} (hr : SlR X r) (h : VSl (cn X t) r f) (ha : SE X t W a ma) (hl : SPt X t W lo ml) (hh : SPt X t W hi mh) : SE X t W (.Subscript a (.Slice lo hi none p2) pos) (mSl f ma ml mh) := by
  refine PE.imp (pe_slice hr ha hl hh) fun σ H Q ⟨e, H0, Fr, as, rp, po⟩ => ?_
  refine ⟨e, H0, Fr, as, rp, po.bind fun ra e1 v H1 H' s rr po => ?_⟩
  obtain ⟨H2, as, s2, rp, kp⟩ := RpR.keep rr
  refine ⟨e1, H2, Fr, as, rp, (po.mono s2).bind fun l e2 l' H3 H'' s3 ⟨e4, as, rp⟩ po => ?_⟩
  subst e4
  refine ⟨e2, H3, Fr, as, rp, po.bind fun h' e3 h2 H4 H5 s4 ⟨e4, as, rp⟩ po => ?_⟩
  subst e4
  obtain ⟨dx, q1, po⟩ := po.ofO
  obtain ⟨dz, q2, po⟩ := po.ofO
  exact h H4 H5 v dx dz _ _ Q rp.sub q2 ((kp.mono (s3.trans s4)).peek rp q1) (po.out rp)
theorem se_slL {f : D → Option Int → Option Int → Option (List D)} (hr : SlR X r) (h : LSl (cn X t) r f) (ha : SE X t W a ma) (hl : SPt X t W lo ml) (hh : SPt X t W hi mh) : SE X t W (.Subscript a (.Slice lo hi none p2) pos) (mSlL f ma ml mh) := by
  refine PE.imp (pe_slice hr ha hl hh) fun σ H Q ⟨e, H0, Fr, as, rp, po⟩ => ?_
  refine ⟨e, H0, Fr, as, rp, po.bind fun ra e1 v H1 H' s rr po => ?_⟩
  obtain ⟨H2, as, s2, rp, kp⟩ := RpR.keep rr
  refine ⟨e1, H2, Fr, as, rp, (po.mono s2).bind fun l e2 l' H3 H'' s3 ⟨e4, as, rp⟩ po => ?_⟩
  subst e4
  refine ⟨e2, H3, Fr, as, rp, po.bind fun h' e3 h2 H4 H5 s4 ⟨e4, as, rp⟩ po => ?_⟩
  subst e4
  obtain ⟨dx, q1, po⟩ := po.ofO
  obtain ⟨dz, q2, po⟩ := po.ofO
  exact h H4 H5 v dx dz _ _ Q rp.sub q2 ((kp.mono (s3.trans s4)).peek rp q1) (po.newL rp)
end
theorem cut_len {α : Type} (l : List α) (lo hi : Option Int) : (cut l lo hi).length ≤ l.length := by
  unfold cut
  rw [List.length_take, List.length_drop]
  omega
theorem sl_S {c : Cn} : VSl c rSlS slS := by
  intro H0 H x dx dz lo hi Q s e hd o
  match dx, e with
  | .str z, e =>
    cases e
    obtain ⟨rfl, hl⟩ := hd
    refine ⟨sS z, rfl, by rw [sS_len, sizeLine_lim]; exact hl, ?_⟩
    exact o.str (Nat.le_trans (cut_len z lo hi) hl)
theorem Dats.cut {c : Cn} {H : Hp} {l : List D} {vs : List V} (h : Dats c H l vs) (lo hi : Option Int) : Dats c H (cut l lo hi) (cutV vs lo hi) := by
  have := Dats.take (HT.sIx vs.length vs.length hi - HT.sIx vs.length 0 lo) (Dats.drop (HT.sIx vs.length 0 lo) h)
  unfold cutV
  rw [h.len] at this ⊢
  exact this
theorem sl_L {c : Cn} : LSl c (rSlL c.K) slL := by
  intro H0 H x dx l lo hi Q s e hd nl
  match dx, e with
  | .lst m, e =>
    cases e
    obtain ⟨hl, a, vs, rfl, h2, h3⟩ := hd
    exact ⟨a, vs, rfl, h2, fun p hp => nl p _ hp (Nat.le_trans (cut_len m lo hi) hl) (h3.cut lo hi)⟩
end
end F
end

section
set_option Elab.async false
set_option linter.all false
set_option autoImplicit false
set_option maxRecDepth 100000
/-! F layer, part L: dicts, isinstance, match, sorted. -/
namespace F
open PySem PySem.Spec PyProof.Rows L2
section
variable {c : Cn} {H0 Fr H : Hp} {σ : St} {e : Env} {as : Nat → List Addr}
theorem Rp.own1 {p : Addr} {y x : HO} {o : O} (r : Rp c H0 (upd Fr p y) H σ e as) (hF : Fr p = none) (h : OwnR c H0 (upd H p x) o (.ref p) [p]) : Rp1 c H0 Fr (upd H p x) σ e (.ref p) o := by
  refine ⟨[p], as, h, by simp, fun a ha => ?_, ?_⟩
  · rw [List.mem_singleton.mp ha]
    exact ⟨(r.fr p y upd_same).2, hF⟩
  · have e1 : addF Fr (upd H p x) [p] = upd (upd Fr p y) p x := by
      funext b
      by_cases z : b = p
      · subst z
        rw [addF_in (List.mem_singleton_self b), upd_same, upd_same]
      · rw [addF_out (by simpa using z), upd_ne z, upd_ne z]
    rw [e1]
    exact r.frUpd upd_same
end
section
variable {X : Cx} {t : Tb} {W : WX} {o a b : Expr} {mo ma mb : M R} {pos p : Pos}
/-! ### {k: v, ..} -/
def rrKv (c : Cn) : Hp → St → Hp → Hp → Env → List (V × V) → List (Ky × D) → Prop := fun Fr σ H1 H' e ps l => (∃ as, Rp c H1 Fr H' σ e as) ∧ ∃ kvs : List (Key × V), ps = kvs.map (fun kv => (kV kv.1, kv.2)) ∧ DatK c H1 l kvs
def SDc (X : Cx) (t : Tb) (W : WX) (pos : Pos) (ks : List (Option Expr)) (vs : List Expr) (kms : List (Ky × M R)) : Prop := ∃ trs, PPs X pos ks vs trs ∧ ∀ σ H Q, tG t (cn X t) W (rrKv (cn X t)) (mDvs kms) σ H Q → tPairs trs σ H Q
theorem sdc_nil : SDc X t W pos [] [] [] := ⟨[], pps_nil, fun σ H Q ⟨e, H0, Fr, as, rp, po⟩ => po [] H0 H (Same.refl _) ⟨⟨as, rp⟩, [], rfl, rfl⟩⟩
theorem sdc_cons {ke : Expr} {k : Ky} {ks : List (Option Expr)} {vs : List Expr} {kms : List (Ky × M R)} (hk : PE X ke (tC (kV (kyK k)))) (ha : SE X t W a ma) (hr : SDc X t W pos ks vs kms) : SDc X t W pos (some ke :: ks) (a :: vs) ((k, ma) :: kms) := by
  obtain ⟨trs, h1, h2⟩ := hr
  refine ⟨_, pps_cons hk ha h1, fun σ H Q ⟨e, H0, Fr, as, rp, po⟩ => ?_⟩
  refine ⟨e, H0, Fr, as, rp, Po.bind (f := fun r e1 => andThen (leak r e1) fun d e2 => andThen (mDvs kms e2) fun ds e3 => .ok ((k, d) :: ds) e3) po fun ra e1 v H1 H' s rr po => ?_⟩
  obtain ⟨d, e2, H2, as, q, s2, rp, hd, po⟩ := po.leak rr
  refine h2 _ _ _ ⟨e2, H2, Fr, as, rp, po.bind fun ds e3 ps H3 H'' s3 ⟨rp3, kvs, e4, ks⟩ po => ?_⟩
  subst e4
  exact po.ret (Same.refl _) ⟨rp3, (kyK k, v) :: kvs, rfl, v, kvs, rfl, Dat.mono s3 _ _ hd, ks⟩
theorem kyK_inj {k q : Ky} (h : kyK k = kyK q) : k = q := by
  cases k with
  | i m =>
    cases q with
    | i n => cases h; rfl
    | s y => cases h
  | s x =>
    cases q with
    | i n => cases h
    | s y =>
      have h1 : sS x = sS y := Sum.inr.inj h
      rw [SX.S_inj h1]
theorem DatK.keys {c : Cn} {H : Hp} : ∀ {l : List (Ky × D)} {kvs : List (Key × V)}, DatK c H l kvs → kvs.map (·.1) = (l.map (·.1)).map kyK
  | [], _, h => by
    have h : _ = [] := h
    subst h
    rfl
  | (k, d) :: r, _, ⟨v, s, h1, h2, h3⟩ => by
    subst h1
    simp only [List.map_cons]
    rw [DatK.keys h3]
theorem merge_nodup : ∀ (kvs acc : List (Key × V)), (acc ++ kvs).map (·.1) |>.Nodup → mergeK acc kvs = acc ++ kvs
  | [], acc, _ => by simp [mergeK]
  | kv :: kvs, acc, h => by
    have hno : (acc.any fun p => decide (p.1 = kv.1)) = false := by
      rw [List.any_eq_false]
      intro p hp
      rw [decide_eq_true_eq]
      intro e
      rw [List.map_append, List.map_cons, List.nodup_append] at h
      exact h.2.2 _ (List.mem_map_of_mem hp) _ (List.mem_cons_self ..) e
    have e1 : putK acc kv.1 kv.2 = acc ++ [kv] := by
      unfold putK
      rw [hno]
      rfl
    show mergeK (putK acc kv.1 kv.2) kvs = _
    rw [e1, merge_nodup kvs (acc ++ [kv]) (by rw [List.append_assoc]; exact h), List.append_assoc]
    rfl
theorem mDvs_keys : ∀ {kms : List (Ky × M R)} {e e' : Env} {l : List (Ky × D)}, mDvs kms e = .ok l e' → l.map (·.1) = kms.map (·.1)
  | [], _, _, _, h => by
    cases h
    rfl
  | (k, m) :: kms, e, e', l, h => by
    have h : (andThen (m e) fun r e1 => andThen (leak r e1) fun d e2 => andThen (mDvs kms e2) fun ds e3 => .ok ((k, d) :: ds) e3) = .ok l e' := h
    cases q : m e with
    | ok r e1 =>
      rw [q] at h
      have h : (andThen (leak r e1) fun d e2 => andThen (mDvs kms e2) fun ds e3 => .ok ((k, d) :: ds) e3) = .ok l e' := h
      cases q2 : leak r e1 with
      | ok d e2 =>
        rw [q2] at h
        have h : (andThen (mDvs kms e2) fun ds e3 => .ok ((k, d) :: ds) e3) = .ok l e' := h
        cases q3 : mDvs kms e2 with
        | ok ds e3 =>
          rw [q3] at h
          cases h
          simp only [List.map_cons]
          rw [mDvs_keys q3]
        | ex => rw [q3] at h; cases h
        | bad => rw [q3] at h; cases h
      | ex => rw [q2] at h; cases h
      | bad => rw [q2] at h; cases h
    | ex => rw [q] at h; cases h
    | bad => rw [q] at h; cases h
theorem se_dct {ks : List (Option Expr)} {vs : List Expr} {kms : List (Ky × M R)} (h : SDc X t W pos ks vs kms) (hall : ks.all (·.isSome) = true := by rfl) (hl : ks.length = vs.length := by rfl) (h0 : ks ≠ [] := by exact List.cons_ne_nil _ _) (h15 : ks.length ≤ 15 := by decide)
    (hnd : (kms.map (·.1)).Nodup := by decide) (hlen : kms.length ≤ 15 := by decide) : SE X t W (.Dict ks vs pos) (mDct kms) := by
  obtain ⟨trs, h1, h2⟩ := h
  refine PE.imp (pe_disp h1 hall hl h0 h15) fun σ H Q ⟨e, H0, Fr, as, rp, po⟩ p hp => h2 _ _ _ ?_
  have hF : Fr p = none := by
    cases q : Fr p with
    | none => rfl
    | some y => rw [(rp.fr p y q).1] at hp; cases hp
  have po : Po t (cn X t) W Fr σ H0 (rrR (cn X t) Fr σ) Q (andThen (mDvs kms e) fun l e1 => .ok (.ow (.fd l)) e1) := po
  cases q0 : mDvs kms e with
  | ok l e1 =>
    rw [q0] at po
    refine ⟨e, H0, upd Fr p (.dK []), as, rp.frNew hp, ?_⟩
    rw [q0]
    rintro ps H1 H' s ⟨⟨as1, rp1⟩, kvs, rfl, dk⟩
    have hk := mDvs_keys q0
    have hkl : kvs.length = kms.length := by
      have := congrArg List.length (dk.keys.trans (congrArg (List.map kyK) hk))
      simpa using this
    have hnd2 : (kvs.map (·.1)).Nodup := by
      rw [dk.keys, hk]
      exact List.Pairwise.map _ (fun a b h z => h (kyK_inj z)) hnd
    have hll : l.length ≤ lim := by
      have := congrArg List.length hk
      simp only [List.length_map] at this
      rw [this]
      exact Nat.le_trans hlen (by decide)
    refine ⟨(rp1.fr p _ upd_same).1, kvs, rfl, by rw [hkl]; exact hlen, ?_⟩
    have em : mergeK [] kvs = kvs := merge_nodup kvs [] hnd2
    rw [em]
    refine po (.ref p) H1 _ s (rp1.own1 hF ⟨hll, p, kvs, rfl, rfl, upd_same, dk⟩)
  | ex k' d e1 =>
    rw [q0] at po
    refine ⟨e, H0, upd Fr p (.dK []), as, rp.frNew hp, ?_⟩
    rw [q0]
    exact fun H2 H' as cls dx s rp xa => po H2 H' as cls dx s (rp.less fun b o hb => by
      by_cases z : b = p
      · rw [z, hF] at hb; cases hb
      · rw [upd_ne z]; exact hb) xa
  | bad =>
    rw [q0] at po
    exact po.elim
/-! ### d[k] -/
def rDGet : R2 := fun x y H Q => ∃ a v, x = .ref a ∧ DGet H a y (some v) ∧ Q v H
theorem lookK_val {c : Cn} {H : Hp} {q : Ky} {d : D} : ∀ {l : List (Ky × D)} {kvs : List (Key × V)}, DatK c H l kvs → lookK l q = some d → ∃ v, valV kvs (kyK q) = some v ∧ Dat c H d v
  | [], _, _, e => by cases e
  | (k, d') :: r, _, ⟨v, s, h1, h2, h3⟩, e => by
    subst h1
    have e : (if q = k then some d' else lookK r q) = some d := e
    by_cases z : q = k
    · rw [if_pos z] at e
      cases e
      exact ⟨v, valV_pos (by rw [z]), h2⟩
    · rw [if_neg z] at e
      obtain ⟨w, h4, h5⟩ := lookK_val h3 e
      exact ⟨w, (valV_neg fun y => z (kyK_inj y).symm).trans h4, h5⟩
theorem keyD_kV {c : Cn} {H0 H : Hp} {d : D} {q : Ky} {v : V} (e : keyD d = some q) (h : Dat1 c H0 H d v) : v = kV (kyK q) := by
  cases d with
  | int i =>
    cases e
    exact h
  | str x =>
    cases e
    exact h.1
  | _ => cases e
theorem v_getK {c : Cn} : VOp2 c rDGet getKD := by
  intro H0 H x y dx dy dz Q s e hx hy o
  match dx, e with
  | .dct l, e =>
    obtain ⟨q, e1, e2⟩ := Option.bind_eq_some_iff.mp (show (keyD dy).bind (lookK l) = some dz from e)
    obtain ⟨hl, a, kvs, rfl, h2, h3⟩ := hx
    obtain ⟨w, h4, h5⟩ := lookK_val h3 e2
    refine ⟨a, w, rfl, ?_, o.1 w h5⟩
    rw [keyD_kV e1 hy, ← h4]
    exact .inl ⟨kvs, _, h2, rfl, rfl⟩
theorem se_dget (hu : X.A.units + 1 < cLine) (ha : SE X t W a ma) (hb : SE X t W b mb) (hs : NoSl b) : SE X t W (.Subscript a b pos) (mOp2 getKD ma mb) :=
  PE.imp (pe_dget hu ha hb hs) fun σ H Q q => tI_op2 (r := rDGet) v_getK q
/-! ### a written table of texts -/
def KTab (X : Cx) (t : Tb) (a : Addr) (l : List (List Nat × D)) : Prop := ∀ (x : List Nat) (d : D), l.lookup x = some d → ∃ v, KDct X.K X.w a (sS x) v ∧ ∀ H, Dat (cn X t) H d v
theorem se_tab {n : Addr} {l : List (List Nat × D)} (hp : PE X a (tC (.ref n))) (ht : KTab X t n l) (hb : SE X t W b mb) (hs : PlainIx b) : SE X t W (.Subscript a b pos) (mOp1 (tabD l) mb) := by
  refine PE.imp (pe_ix ix_kdict hp hb hs) fun σ H Q q => tI_op1 (r := fun y H Q => rIxD X.K X.w (.ref n) y H Q) ?_ q
  intro H0 H x dx dz Q s e hx o
  match dx, e with
  | .str z, e =>
    obtain ⟨rfl, hl⟩ := hx
    obtain ⟨v, h1, h2⟩ := ht z dz e
    exact ⟨n, sS z, v, rfl, rfl, h1, o.1 v (h2 H0)⟩
/-! ### isinstance with a built-in class -/
def tyN : Ty → String
  | .str => "str"
  | .int => "int"
  | .bool => "bool"
  | .list => "list"
  | .tuple => "tuple"
  | .dict => "dict"
theorem sqT_ty {K : PySem.W.Frag} {H : Hp} {a : Addr} {vs : List V} (h : SqT K H a vs) : TyX K H (.ref a) (.type "tuple") := by
  rcases h with (h | ⟨o, h⟩) | ⟨o, its, n, h1, h2, _⟩
  · exact .base (.tup h)
  · exact .fTuple h
  · exact .kTuple h1 h2
theorem rd_ty {K : PySem.W.Frag} {H : Hp} {a : Addr} {vs : List V} (h : SqL K H a vs) : TyX K H (.ref a) (.type "list") := by
  rcases h with (h | ⟨o, h⟩) | ⟨o, its, n, h1, h2, _⟩
  · exact .base (.lst h)
  · exact .base (.frz h)
  · exact .kList h1 h2
def dTy : D → Option String
  | .non => some "NoneType"
  | .bl _ => some "bool"
  | .int _ => some "int"
  | .str _ => some "str"
  | .tup _ => some "tuple"
  | .lst _ => some "list"
  | .dct _ => some "dict"
  | .obj _ _ => none
  | .ex _ _ => none
theorem dTy_ty {c : Cn} {H0 H : Hp} {d : D} {v : V} {n : String} (e : dTy d = some n) (h : Dat1 c H0 H d v) : TyX c.K H v (.type n) := by
  cases d with
  | non => cases e; cases h; exact .base .non
  | bl b => cases e; cases h; exact .base (.bl b)
  | int i => cases e; cases h; exact .base (.int i)
  | str x => cases e; obtain ⟨rfl, _⟩ := h; exact .base (.str _)
  | tup l => cases e; obtain ⟨_, a, vs, rfl, h, _⟩ := h; exact sqT_ty h
  | lst l => cases e; obtain ⟨_, a, vs, rfl, h, _⟩ := h; exact rd_ty h
  | dct l =>
    cases e
    obtain ⟨_, a, vs, rfl, h, _⟩ := h
    rcases h with h | ⟨o, h⟩
    · exact .base (.dK h)
    · exact .fDict h
  | obj k l => cases e
  | ex k d => cases e
theorem kit_all : (["NoneType", "bool", "int", "str", "tuple", "list", "dict"].all fun a => ["str", "int", "bool", "list", "tuple", "dict"].all fun b =>
    kitB a b == some (a == b || (a == "bool" && b == "int"))) = true := by decide +kernel
theorem kit_is (ty : Ty) (d : D) {b : Bool} (e : isTy ty d = some b) : ∃ n, dTy d = some n ∧ kitB n (tyN ty) = some b := by
  have hk := kit_all
  simp only [List.all_cons, List.all_nil, Bool.and_eq_true, beq_iff_eq, Bool.and_true] at hk
  cases d <;> cases ty <;> first | (cases e; done) | (refine ⟨_, rfl, ?_⟩; simp only [isTy, Option.some.injEq] at e; subst e; simp only [tyN, hk]; rfl)
theorem se_isi {x y : Str} {py : Pos} {ty : Ty} (hg : Gl X x) (hm : X.mg x = none) (hv : bootBuiltins x = some (.builtin "isinstance")) (hgy : Gl X y) (hmy : X.mg y = none) (hvy : bootBuiltins y = some (.type (tyN ty))) (ha : SE X t W a ma)
    (hn : x ≠ "__name__" := by decide) (hdb : (x == ("__debug__" : Str)) = false := by decide) (hny : y ≠ "__name__" := by decide) (hdy : (y == ("__debug__" : Str)) = false := by decide)
    (he : starEach [a, .Name y py] X.env = (false, eval a X.env) :: starEach [.Name y py] X.env := by rfl) (he2 : starEach [.Name y py] X.env = (false, eval (.Name y py) X.env) :: starEach [] X.env := by rfl) (hpl : (backTo pos (starEach [.Name y py] X.env)).any (·.1) = false := by rfl) :
    SE X t W (.Call (.Name x p) [a, .Name y py] [] pos) (mOp1 (isiD ty) ma) := by
  refine PE.imp (pe_callB call_isi hg hm hv (pa_cons ha (pa_cons (pe_bltn (v := .ty (tyN ty)) hgy hmy hvy rfl hny hdy) pa_nil he2) he) hn hdb he hpl) fun σ H Q q => ?_
  refine tI_op1 (r := fun v H Q => rIsi X.K [v, .ty (tyN ty)] H Q) ?_ q
  intro H0 H x dx dz Q s e hx o
  obtain ⟨b, e1, rfl⟩ := Option.map_eq_some_iff.mp (show (isTy ty dx).map D.bl = some dz from e)
  obtain ⟨n, h1, h2⟩ := kit_is ty dx e1
  exact ⟨x, .ty (tyN ty), .type n, .type (tyN ty), b, rfl, .ty _, dTy_ty h1 hx, kit_ty h2, o.bl⟩
end
end F
end

section
set_option Elab.async false
set_option linter.all false
set_option autoImplicit false
set_option maxRecDepth 100000
/-! F layer, part M: comprehensions of two clauses; a = b = e; match; sorted. -/
namespace F
open PySem PySem.Spec PyProof.Rows L2
/-! ### two clauses -/
/-- as lcL, the length looked at -/
def lcK (own : List Nat) (t : Tg) (c : M Bool) (v : M R) : List D → List D → Env → Rs (List D)
  | [], acc, e => .ok acc e
  | d :: ds, acc, e => match t.put d e with
    | some e1 => (match c e1 with
      | .ok true e2 => (match v e2 with
        | .ok r e3 => (match leak r e3 with
          | .ok x e4 => if acc.length < lim then lcK own t c v ds (acc ++ [x]) (wipeE e4 own) else .bad
          | _ => .bad)
        | _ => .bad)
      | .ok false e2 => lcK own t c v ds acc (wipeE e2 own)
      | _ => .bad)
    | none => .bad
def lcL2 (own : List Nat) (t : Tg) (c : M Bool) (own1 : List Nat) (t1 : Tg) (it1 : M (List D)) (c1 : M Bool) (v : M R) : List D → List D → Env → Rs (List D)
  | [], acc, e => .ok acc e
  | d :: ds, acc, e => match t.put d e with
    | some e1 => (match c e1 with
      | .ok true e2 => (match it1 e2 with
        | .ok items e3 => (match lcK own1 t1 c1 v items acc (wipeE e3 own1) with
          | .ok acc' e4 => lcL2 own t c own1 t1 it1 c1 v ds acc' (wipeE e4 own)
          | _ => .bad)
        | _ => .bad)
      | .ok false e2 => lcL2 own t c own1 t1 it1 c1 v ds acc (wipeE e2 own)
      | _ => .bad)
    | none => .bad
def mLc2 (own : List Nat) (t : Tg) (it : M (List D)) (c : M Bool) (own1 : List Nat) (t1 : Tg) (it1 : M (List D)) (c1 : M Bool) (v : M R) : M R := fun e => andThen (it e) fun ds e1 => lcEnd e1 own (lcL2 own t c own1 t1 it1 c1 v ds [] (wipeE e1 own))
theorem it_gen {J : It} {n : Nat} {G : Hp → Prop} {Y : Nat → Hp → V → Hp → Prop} (w : Walk J n G Y) {B : (Hp → Prop) → V → Hp → Prop} {H1 : Hp} {Qd : Hp → Prop} (Pv : Nat → Hp → Prop) (h0 : Pv 0 H1) (hG : ∀ i H, i ≤ n → Pv i H → G H)
    (hs : ∀ i x H H', i < n → Pv i H → Y i H x H' → B (Pv (i + 1)) x H') (hd : ∀ H, Pv n H → Qd H) :
    ∃ W : Nat → Nat → Hp → Prop, (∃ m, W 0 m H1) ∧ ∀ i m H, W i m H →
      (J.stop i H ∧ Qd H) ∨ (J.go i H ∧ ∃ Nx : Hp → Prop, (∀ H', Nx H' → ∃ m', m' < m ∧ W (i + 1) m' H') ∧ ∀ x H', J.yld i H x H' → B Nx x H') := by
  refine ⟨fun i m H => m = n - i ∧ i ≤ n ∧ Pv i H, ⟨n, by simp, Nat.zero_le _, h0⟩, ?_⟩
  rintro i m H ⟨rfl, hi, p⟩
  have q := hG i H hi p
  by_cases hlt : i < n
  · refine .inr ⟨w.goes i H hlt q, Pv (i + 1), fun H' p' => ⟨n - (i + 1), by omega, rfl, hlt, p'⟩, fun x H' y => hs i x H H' hlt p (w.yields i H x H' hlt q y)⟩
  · have e : i = n := by omega
    subst e
    exact .inl ⟨w.stops H q, hd H p⟩
theorem wipe_sub {σ : St} {vs own : List Nat} (h : ∀ i ∈ vs, i ∈ own) : L2.wipe (L2.wipe σ vs) own = L2.wipe σ own := by
  apply List.ext_getElem?
  intro i
  by_cases hi : i ∈ own
  · by_cases hlt : i < σ.length
    · rw [wipe_in hi (by rw [wipe_length]; exact hlt), wipe_in hi hlt]
    · rw [List.getElem?_eq_none (by rw [wipe_length, wipe_length]; omega), List.getElem?_eq_none (by rw [wipe_length]; omega)]
  · rw [wipe_get hi, wipe_get hi, wipe_get fun z => hi (h i z)]
section
variable {X : Cx} {t : Tb} {W : WX}
theorem lc2_read {mi mi1 : M (List D)} {own own1 : List Nat} {tg tg1 : Tg} {mc mc1 : M Bool} {mv : M R} {σ : St} {H : Hp} {Q : VK} (hsub : ∀ i ∈ own1, i ∈ own) (q : tI X t W (mLc2 own tg mi mc own1 tg1 mi1 mc1 mv) σ H Q) :
    tLc2 (tIt t (cn X t) W mi) (tGt (cn X t) (fun i => !own.contains i) tg) (tG t (cn X t) W0 (rrB (cn X t)) mc) (tIt t (cn X t) W0 mi1) (tGt (cn X t) (fun i => !own1.contains i) tg1) (tG t (cn X t) W0 (rrB (cn X t)) mc1) (tI X t W0 mv) own own1 σ H Q := by
  obtain ⟨e, H0, Fr, as, rp, po⟩ := q
  refine ⟨e, H0, Fr, as, rp, po.bind fun items e1 J H1 H' s ⟨⟨as1, rp1⟩, G, Y, wk, hG, hY⟩ po => ?_⟩
  intro L hL
  have hFL : Fr L = none := by
    cases z : Fr L with
    | none => rfl
    | some y =>
      rw [(rp1.fr L y z).1] at hL
      cases hL
  have old : ∀ i d, slot e1 i = some (.sh d) → ∃ v, σ[i]? = some (some v) ∧ Dat (cn X t) H1 d v := fun i d z => by
    obtain ⟨v, h1, h2⟩ := rp1.own i _ z
    exact ⟨v, h1, h2.2⟩
  obtain ⟨as0, rp0⟩ := rp1.wipe own
  have hz : sizeLine = lim := sizeLine_lim
  refine it_gen (B := fun Nx x H' => tGt (cn X t) (fun i => !own.contains i) tg x (L2.wipe σ own) H' fun σ2 H2 => L2.wipe σ2 own = L2.wipe σ own ∧ tG t (cn X t) W0 (rrB (cn X t)) mc σ2 H2 fun b H3 =>
    if b = true then tIt t (cn X t) W0 mi1 σ2 H3 fun J1 H4 => ∃ W1 : Nat → Nat → Hp → Prop, (∃ m, W1 0 m H4) ∧ ∀ j k H, W1 j k H →
      (J1.stop j H ∧ Nx H) ∨ (J1.go j H ∧ ∃ Nx1 : Hp → Prop, (∀ H', Nx1 H' → ∃ k', k' < k ∧ W1 (j + 1) k' H') ∧ ∀ x H', J1.yld j H x H' → tGt (cn X t) (fun i => !own1.contains i) tg1 x (L2.wipe σ2 own1) H' fun σ3 H5 => L2.wipe σ3 own1 = L2.wipe σ2 own1 ∧ tG t (cn X t) W0 (rrB (cn X t)) mc1 σ3 H5 fun b H6 =>
        if b = true then tI X t W0 mv σ3 H6 fun y H7 => ∃ acc, H7 L = some (.lst acc) ∧ acc.length < sizeLine ∧ Nx1 (upd H7 L (.lst (acc ++ [y]))) else Nx1 H6)
    else Nx H3)
    wk (fun i H'' => ∃ (e' : Env) (H2 : Hp) (as' : Nat → List Addr) (acc : List D) (ws : List V), Same H1 H2 ∧ Rp (cn X t) H2 (upd Fr L (.lst ws)) H'' (L2.wipe σ own) e' as' ∧ Dats (cn X t) H2 acc ws ∧ acc.length ≤ lim ∧
      Po t (cn X t) W Fr σ H1 (rrR (cn X t) Fr σ) Q (lcEnd e1 own (lcL2 own tg mc own1 tg1 mi1 mc1 mv (items.drop i) acc e'))) ⟨wipeE e1 own, H1, as0, [], [], Same.refl _, rp0.frNew hL, rfl, Nat.zero_le _, by simpa using po⟩ (fun i H'' _ ⟨e', H2, as', acc, ws, s2, rp2, _⟩ => hG H2 H'' s2 rp2.sub) ?_ ?_
  · rintro i x Hi Hx hi ⟨e', H2, as', acc, ws, s2, rp2, hacc, hlen, po2⟩ y
    obtain ⟨d, H3, e3, s3, rp3, hd⟩ := wk_item (G := G) hY hi s2 rp2 y
    rw [drop_cons e3] at po2
    unfold lcL2 at po2
    cases q : tg.put d e' with
    | none =>
      rw [q] at po2
      exact po2.elim
    | some e2 =>
      rw [q] at po2
      dsimp only at po2
      refine ⟨e', H3, upd Fr L (.lst ws), as', d, e2, rp3, hd, q, fun σ2 as2 p3 rp4 => ?_⟩
      have hw := wipe_eq p3
      refine ⟨hw, e2, H3, upd Fr L (.lst ws), as2, rp4, ?_⟩
      cases qc : mc e2 with
      | bad =>
        rw [qc] at po2
        exact po2.elim
      | ex _ _ _ =>
        rw [qc] at po2
        exact po2.elim
      | ok b e4 =>
        rw [qc] at po2
        rintro b' H4 H4' s4 ⟨rfl, as4, rp4⟩
        cases b' with
        | false =>
          dsimp only at po2
          rw [if_neg Bool.false_ne_true]
          obtain ⟨as5, rp5⟩ := rp4.wipe own
          rw [hw] at rp5
          exact ⟨_, H4, as5, acc, ws, (s2.trans s3).trans s4, rp5, Dats.mono (s3.trans s4) _ _ hacc, hlen, po2⟩
        | true =>
          dsimp only at po2
          rw [if_pos rfl]
          refine ⟨e4, H4, upd Fr L (.lst ws), as4, rp4, ?_⟩
          cases qi : mi1 e4 with
          | bad =>
            rw [qi] at po2
            exact po2.elim
          | ex _ _ _ =>
            rw [qi] at po2
            exact po2.elim
          | ok items1 e5 =>
            rw [qi] at po2
            dsimp only at po2
            rintro J1 H5 H5' s5 ⟨⟨as5, rp5⟩, G1, Y1, wk1, hG1, hY1⟩
            obtain ⟨as6, rp6⟩ := rp5.wipe own1
            refine it_gen wk1 (B := fun Nx1 x H' => tGt (cn X t) (fun i => !own1.contains i) tg1 x (L2.wipe σ2 own1) H' fun σ3 H5 => L2.wipe σ3 own1 = L2.wipe σ2 own1 ∧ tG t (cn X t) W0 (rrB (cn X t)) mc1 σ3 H5 fun b H6 =>
                if b = true then tI X t W0 mv σ3 H6 fun y H7 => ∃ acc, H7 L = some (.lst acc) ∧ acc.length < sizeLine ∧ Nx1 (upd H7 L (.lst (acc ++ [y]))) else Nx1 H6)
              (fun j H'' => ∃ (e' : Env) (H2 : Hp) (as' : Nat → List Addr) (acc : List D) (ws : List V), Same H5 H2 ∧ Rp (cn X t) H2 (upd Fr L (.lst ws)) H'' (L2.wipe σ2 own1) e' as' ∧ Dats (cn X t) H2 acc ws ∧ acc.length ≤ lim ∧
                Po t (cn X t) W Fr σ H1 (rrR (cn X t) Fr σ) Q (lcEnd e1 own (match lcK own1 tg1 mc1 mv (items1.drop j) acc e' with
                  | .ok acc' e4 => lcL2 own tg mc own1 tg1 mi1 mc1 mv (items.drop (i + 1)) acc' (wipeE e4 own)
                  | _ => .bad))) ⟨wipeE e5 own1, H5, as6, acc, ws, Same.refl _, rp6, Dats.mono ((s3.trans s4).trans s5) _ _ hacc, hlen, by simpa using po2⟩ (fun j H'' _ ⟨e', H2, as', acc, ws, s2, rp2, _⟩ => hG1 H2 H'' s2 rp2.sub) ?_ ?_
            · rintro j x1 Hj Hx1 hj ⟨e7, H7, as7, acc7, ws7, s7, rp7, hacc7, hlen7, po7⟩ y1
              obtain ⟨d8, H8, e8, s8, rp8, hd8⟩ := wk_item (G := G1) hY1 hj s7 rp7 y1
              rw [drop_cons e8] at po7
              unfold lcK at po7
              cases q9 : tg1.put d8 e7 with
              | none =>
                rw [q9] at po7
                exact po7.elim
              | some e9 =>
                rw [q9] at po7
                dsimp only at po7
                refine ⟨e7, H8, upd Fr L (.lst ws7), as7, d8, e9, rp8, hd8, q9, fun σ3 as9 p9 rp9 => ?_⟩
                have hw1 := wipe_eq p9
                refine ⟨hw1, e9, H8, upd Fr L (.lst ws7), as9, rp9, ?_⟩
                cases qc1 : mc1 e9 with
                | bad =>
                  rw [qc1] at po7
                  exact po7.elim
                | ex _ _ _ =>
                  rw [qc1] at po7
                  exact po7.elim
                | ok b1 e10 =>
                  rw [qc1] at po7
                  rintro b' H10 H10' s10 ⟨rfl, as10, rp10⟩
                  cases b' with
                  | false =>
                    dsimp only at po7
                    rw [if_neg Bool.false_ne_true]
                    obtain ⟨as11, rp11⟩ := rp10.wipe own1
                    rw [hw1] at rp11
                    exact ⟨_, H10, as11, acc7, ws7, (s7.trans s8).trans s10, rp11, Dats.mono (s8.trans s10) _ _ hacc7, hlen7, po7⟩
                  | true =>
                    dsimp only at po7
                    rw [if_pos rfl]
                    refine ⟨e10, H10, upd Fr L (.lst ws7), as10, rp10, ?_⟩
                    cases qv : mv e10 with
                    | bad =>
                      rw [qv] at po7
                      exact po7.elim
                    | ex _ _ _ =>
                      rw [qv] at po7
                      exact po7.elim
                    | ok r e11 =>
                      rw [qv] at po7
                      dsimp only at po7
                      intro v H11 H11' s11 rr
                      rcases leak_ok (e' := e11) rr with ⟨d12, e12, ql⟩ | ql
                      · rw [ql] at po7
                        dsimp only at po7
                        by_cases hlt : acc7.length < lim
                        · rw [if_pos hlt] at po7
                          obtain ⟨H12, as12, s12, rp12, hd12⟩ := RpR.leak rr ql
                          have hL12 : H11' L = some (.lst ws7) := (rp12.fr L _ upd_same).1
                          have hwl : ws7.length = acc7.length := hacc7.len
                          refine ⟨ws7, hL12, by omega, ?_⟩
                          obtain ⟨as13, rp13⟩ := rp12.wipe own1
                          rw [hw1] at rp13
                          have rp14 := rp13.frUpd (p := L) (x := .lst (ws7 ++ [v])) upd_same
                          rw [upd_upd] at rp14
                          have s26 : Same H7 H12 := ((s8.trans s10).trans s11).trans s12
                          exact ⟨_, H12, as13, acc7 ++ [d12], ws7 ++ [v], s7.trans s26, rp14, Dats.app (Dats.mono s26 _ _ hacc7) (Dats.one hd12), by simp; omega, po7⟩
                        · rw [if_neg hlt] at po7
                          exact po7.elim
                      · rw [ql] at po7
                        exact po7.elim
            · rintro H'' ⟨e7, H7, as7, acc7, ws7, s7, rp7, hacc7, hlen7, po7⟩
              rw [List.drop_length] at po7
              have po7 : Po t (cn X t) W Fr σ H1 (rrR (cn X t) Fr σ) Q (lcEnd e1 own (lcL2 own tg mc own1 tg1 mi1 mc1 mv (items.drop (i + 1)) acc7 (wipeE e7 own))) := po7
              obtain ⟨as8, rp8⟩ := rp7.wipe own
              rw [wipe_sub hsub, hw] at rp8
              exact ⟨_, H7, as8, acc7, ws7, (((s2.trans s3).trans s4).trans s5).trans s7, rp8, hacc7, hlen7, po7⟩
  · rintro H'' ⟨e', H2, as', acc, ws, s2, rp2, hacc, hlen, po2⟩
    rw [List.drop_length] at po2
    have po2 : Po t (cn X t) W Fr σ H1 (rrR (cn X t) Fr σ) Q (.ok (.ow (.fl acc)) (unwipe e1 e' own)) := po2
    have rp3 : Rp (cn X t) H2 (upd Fr L (.lst ws)) H'' σ e' as' := by
      refine rp2.other (by rw [wipe_length]) fun i o q => ?_
      obtain ⟨v, h1, _⟩ := rp2.own i o q
      rw [(wipe_some h1).1, h1]
    obtain ⟨as4, rp4⟩ := rp3.unwipe (e0 := e1) (own := own) (H1 := H1) (is := own) fun i d z => by
      obtain ⟨v, h1, h2⟩ := old i d z
      exact ⟨v, h1, Dat.mono s2 _ _ h2⟩
    refine po2 (.ref L) H2 H'' s2 ⟨[L], as4, ⟨hlen, L, ws, rfl, rfl, ?_, hacc⟩, by simp, fun a ha => ?_, ?_⟩
    · exact (rp2.fr L _ upd_same).1
    · rw [List.mem_singleton.mp ha]
      exact ⟨(rp2.fr L _ upd_same).2, hFL⟩
    · have hF : addF Fr H'' [L] = upd Fr L (.lst ws) := by
        funext b
        by_cases z : b = L
        · subst z
          rw [addF_in (by simp), upd_same]
          exact (rp2.fr b _ upd_same).1
        · rw [addF_out (by simpa using z), upd_ne z]
      rw [hF]
      exact rp4
variable {elt target iter target1 iter1 : Expr} {ifs ifs1 : List Expr} {scope : Scope} {own : List (Str × Nat)} {own1 : List Nat} {pos : Pos} {tg tg1 : Tg} {mi mi1 : M (List D)} {mc mc1 : M Bool} {mv : M R}
theorem se_lc2 (hc : X.calm = true) (hN : X.N.Nodup) (hi : SI X t W target iter mi) (ok : BlkOk X.N X.env.scope scope own) (hv : ∀ i ∈ own1, i ∈ own.map (·.2))
    (hg : ∀ s H C cl fp, SG (Blk X scope s H C cl fp) t (fun i => !(own.map (·.2)).contains i) target tg) (ht : ∀ s H C cl fp, STs (Blk X scope s H C cl fp) t ifs mc)
    (hi1 : ∀ s H C cl fp, SI (Blk X scope s H C cl fp) t W0 target1 iter1 mi1) (hg1 : ∀ s H C cl fp, SG (Blk X scope s H C cl fp) t (fun i => !own1.contains i) target1 tg1) (ht1 : ∀ s H C cl fp, STs (Blk X scope s H C cl fp) t ifs1 mc1)
    (he : ∀ s H C cl fp, SE (Blk X scope s H C cl fp) t W0 elt mv) (hs : ∀ x, foldedSetIterable iter X.env x = pure x := by intro _; rfl) (hs1 : ∀ env x, foldedSetIterable iter1 env x = pure x := by intro _ _; rfl) :
    SE X t W (.ListComp elt [⟨target, iter, ifs, 0⟩, ⟨target1, iter1, ifs1, 0⟩] scope pos) (mLc2 (own.map (·.2)) tg mi mc own1 tg1 mi1 mc1 mv) :=
  PE.imp (pe_lc2 (own := own) hc hN hi ok hv hg ht hi1 hg1 ht1 he hs hs1) fun _ _ _ q => lc2_read hv q
end
end F
end

section
set_option Elab.async false
set_option linter.all false
set_option autoImplicit false
set_option maxRecDepth 100000
/-! F layer, part N: a = b = e; match; sorted. -/
namespace F
open PySem PySem.Spec PyProof.Rows L2
section
variable {X : Cx} {t : Tb} {W : WX} {P : Nat → Bool} {a b : Expr} {ma mb : M R} {pos p : Pos}
/-- t1 = t2 = e -/
def sAsg2 (t1 t2 : Tg) (a : M R) : MS := fun e => sOf (a e) fun r e1 => sOf (leak r e1) fun d e2 => ofOS (t1.put d e2) fun e3 => ofOS (t2.put d e3) fun e4 => .nx e4
theorem ss_asg2 {g1 g2 : Expr} {t1 t2 : Tg} (ha : SE X t W a ma) (h1 : SG X t P g1 t1) (h2 : SG X t P g2 t2) (hz : (assignEach [g1, g2] X.env).map (·.2) = [assign g1 X.env, assign g2 X.env] := by rfl) (hw : swappedStores [g1, g2] a X.env = pure none := by rfl) :
    SS X t W P (.Assign [g1, g2] a pos) (sAsg2 t1 t2 ma) := by
  refine PS.imp (ps_asg2 ha h1 h2 hz hw) fun D σ H ⟨e, H0, Fr, as, rp, po⟩ => ?_
  refine ⟨e, H0, Fr, as, rp, PoS.of po fun r e1 v H1 H' s rr po => ?_⟩
  obtain ⟨d, e2, H2, as2, q, s2, rp2, hd, po⟩ := PoS.leak po rr
  obtain ⟨e3, q3, po⟩ := PoS.ofOS po
  obtain ⟨e4, q4, po⟩ := PoS.ofOS po
  exact ⟨e2, H2, Fr, as2, d, e3, rp2, hd, q3, fun σ' as' p rp' => ⟨e3, H2, Fr, as', d, e4, rp', hd, q4, fun σ2 as3 p2 rp3 => po σ2 H2 H' as3 (Same.refl _) (p.trans p2) rp3⟩⟩
/-! ### match on texts -/
def ptB (l : Option (List (List Nat))) (x : List Nat) : Bool := match l with
  | none => true
  | some l => l.contains x
/-- a pattern against a text -/
def PPt (X : Cx) (pt : Pattern) (l : Option (List (List Nat))) : Prop := ∀ (pins : List (Addr × Obj)) (s : Shared) (σ : St) (H : Hp) (x : List Nat) (v : Value) (Q : Option (List (Str × Value)) → Shared → Prop), Inv X pins σ H s → RelV (.str (sS x)) v →
  (∀ s', Inv X pins σ H s' → Q (if ptB l x = true then some [] else none) s') → wpAny (model X.prog X.w) X.A (matchPattern pt X.env v) Q X.xe s
theorem ppt_str {x : Str} {l : List Nat} {j : Nat} (h : x = sS l := by decide +kernel) : PPt X (.MatchValue (.Constant (.str x) j p) pos) (some [l]) := by
  intro pins s σ H z v Q I r q
  subst h
  refine wpAny_matchPattern_Value (thn (pe_str.run pins s σ H (fun v H' => v = .str (sS l) ∧ H' = H) I ⟨rfl, rfl⟩) fun u s1 ⟨y, H1, I1, r1, q1⟩ => ?_)
  obtain ⟨rfl, rfl⟩ := q1
  refine thn (op_eq pins s1 σ H1 (.str (sS z)) (.str (sS l)) v u (fun v H' => v = .bl (sS z == sS l) ∧ H' = H1) I1 r r1 ⟨rfl, by rw [dec_str], rfl⟩) fun c s2 ⟨y, H2, I2, r2, q2⟩ => ?_
  obtain ⟨rfl, rfl⟩ := q2
  cases (show c = Value.bool (sS z == sS l) from r2)
  refine wpAny_truthy_bool ?_
  have := q s2 I2
  have e1 : ([l].contains z) = (sS z == sS l) := by
    rw [show (sS z == sS l) = (z == l) from SX.S_beq z l]
    show (z == l || false) = _
    rw [Bool.or_false]
  rw [show ptB (some [l]) z = (sS z == sS l) from e1] at this
  cases hb : (sS z == sS l) with
  | true => rw [hb] at this; exact this
  | false => rw [hb] at this; exact this
def PPts (X : Cx) (ps : List Pattern) (l : List (List Nat)) : Prop := ∀ (pins : List (Addr × Obj)) (s : Shared) (σ : St) (H : Hp) (x : List Nat) (v : Value) (Q : Option (List (Str × Value)) → Shared → Prop), Inv X pins σ H s → RelV (.str (sS x)) v →
  (∀ s', Inv X pins σ H s' → Q (if l.contains x = true then some [] else none) s') → wpAny (model X.prog X.w) X.A (matchFirst ps X.env v) Q X.xe s
theorem ppts_nil : PPts X [] [] := fun pins s σ H x v Q I r q => wpAny_matchFirst_nil (q s I)
theorem ppts_cons {pt : Pattern} {ps : List Pattern} {y : List Nat} {l : List (List Nat)} (h : PPt X pt (some [y])) (hr : PPts X ps l) : PPts X (pt :: ps) (y :: l) := by
  intro pins s σ H x v Q I r q
  refine wpAny_matchFirst_cons (h pins s σ H x v _ I r fun s1 I1 => ?_)
  by_cases z : x = y
  · have e1 : (y :: l).contains x = true := by simp [z]
    have := q s1 I1
    rw [if_pos e1] at this
    have e2 : ptB (some [y]) x = true := by show [y].contains x = true; simp [z]
    rw [if_pos e2]
    exact this
  · have e2 : ¬ ptB (some [y]) x = true := by show ¬ [y].contains x = true; simp [z]
    rw [if_neg e2]
    refine hr pins s1 σ H x v Q I1 r fun s2 I2 => ?_
    have e1 : (y :: l).contains x = l.contains x := by simp [z]
    rw [← e1]
    exact q s2 I2
theorem ppt_or {ps : List Pattern} {l : List (List Nat)} (h : PPts X ps l) : PPt X (.MatchOr ps pos) (some l) := by
  intro pins s σ H x v Q I r q
  refine wpAny_matchPattern_Or (h pins s σ H x v _ I r fun s1 I1 => ?_)
  have := q s1 I1
  by_cases z : l.contains x = true
  · rw [if_pos z]
    rw [if_pos (show ptB (some l) x = true from z)] at this
    have e : ((namesOfAll (ps.take 1)).filterMap fun n => (([] : List (Str × Value)).lookup n).map (n, ·)) = [] := by
      apply List.filterMap_eq_nil_iff.mpr
      intro a _
      rfl
    simp only [e]
    exact this
  · rw [if_neg z]
    rw [if_neg (show ¬ ptB (some l) x = true from z)] at this
    exact this
/-- the cases -/
def SMs (X : Cx) (t : Tb) (W : WX) (P : Nat → Bool) (cs : List MatchCase) (ml : List (Option (List (List Nat)) × MS)) : Prop := ∀ (pins : List (Addr × Obj)) (s : Shared) (σ : St) (H : Hp) (D : Ends) (x : List Nat) (v : Value) (first : Bool), Inv X pins σ H s → RelV (.str (sS x)) v →
  tS t (cn X t) W P (mtL ml x) D σ H → wpAny (model X.prog X.w) X.A (matchCases cs X.env v first) (SP X pins D) X.xe s
theorem sms_nil : SMs X t W P [] [] := fun pins s σ H D x v first I r ⟨e, H0, Fr, as, rp, po⟩ => wpAny_matchCases_nil ⟨σ, H, I, po σ H0 H as (Same.refl _) Prot.refl rp⟩
theorem sms_cons {pt : Pattern} {l : Option (List (List Nat))} {body : List Stmt} {mb : MS} {cs : List MatchCase} {ml : List (Option (List (List Nat)) × MS)} (h : PPt X pt l) (hb : SSs X t W P body mb) (hr : SMs X t W P cs ml) : SMs X t W P (⟨pt, none, body⟩ :: cs) ((l, mb) :: ml) := by
  intro pins s σ H D x v first I r ⟨e, H0, Fr, as, rp, po⟩
  refine wpAny_matchCases_cons (h pins s σ H x v _ I r fun s1 I1 => ?_)
  have po : PoS t (cn X t) W P Fr σ H0 D (if ptB l x = true then mb e else mtL ml x e) := po
  by_cases z : ptB l x = true
  · rw [if_pos z] at po ⊢
    exact wpAny_assignInOrder_none (hb.run pins s1 σ H D I1 ⟨e, H0, Fr, as, rp, po⟩)
  · rw [if_neg z] at po ⊢
    exact hr pins s1 σ H D x v false I1 r ⟨e, H0, Fr, as, rp, po⟩
theorem ss_match {cs : List MatchCase} {ml : List (Option (List (List Nat)) × MS)} (ha : SE X t W a ma) (h : SMs X t W P cs ml) : SS X t W P (.Match a cs pos) (sMatch ma ml) := by
  refine ⟨fun pins s σ H D I ⟨e, H0, Fr, as, rp, po⟩ => ?_⟩
  have q : tI X t W ma σ H fun v H' => ∃ x, v = .str (sS x) ∧ tS t (cn X t) W P (mtL ml x) D σ H' := by
    refine ⟨e, H0, Fr, as, rp, PoS.of (f := fun r e1 => match peek r e1 with
      | some (.str x) => mtL ml x e1
      | _ => .bad) po fun r e1 v H1 H' s rr po => ?_⟩
    match q : peek r e1, po with
    | some (.str x), po =>
      obtain ⟨H2, as, s2, rp, hd⟩ := RpR.peek rr q
      exact ⟨x, hd.1, e1, H2, Fr, as, rp, PoS.mono s2 Prot.refl po⟩
  refine wpAny_Match (thn (ha.run pins s σ H _ I q) fun u s1 ⟨v, H1, I1, r1, x, e1, q1⟩ => ?_)
  subst e1
  exact h pins s1 σ H1 D x u true I1 r1 q1
end
/-! ### sorted(text) -/
def chrs (z : Str) : List Str := z.cps.toList.map fun k => ⟨#[k]⟩
def rSortStr : List V → Hp → VK → Prop := fun xs H Q => ∃ z, xs = [.str z] ∧ z.length ≤ sizeLine ∧ ∀ (ys : List Str) (p : Addr), ys.Perm (chrs z) → sortedS ys = true → H p = none → Q (.ref p) (upd H p (.lst (ys.map V.str)))
theorem collectS {prog : Program} {w : World} {A : Around} {E : Value → Shared → Prop} {s : Shared} {Q : List Value → Shared → Prop} (hA : A.handled = none) (z : Str) (t : Tok) (hn : z.cps.size ≤ sizeLine)
    (q : ∀ s2 vs, s.heap.objs.size ≤ s2.heap.objs.size → (∀ b o, s.heap.get? b = some o → s2.heap.get? b = some o) → s2.gens = s.gens → s2.drawn = s.drawn → s2.os = s.os → ItemsOf (SignAt z) vs z.cps.size → Q vs.toList s2) : wpAny (model prog w) A (collect (.str z t)) Q E s := by
  have new0 : (s.heap.push (seqObj "list" #[] 0)).get? s.heap.objs.size = some (seqObj "list" #[] 0) := Heap.get?_push_size _ rfl
  unfold collect; refine wpAny_bind (wpAny_runValue (codeAny_builtin PySem.F.entry_proto_collect ?_)); rw [Around.under_plainId PySem.F.plain_proto_collect _]
  show wpAny (model prog w) A.in1 (newList [] >>= fun n => again (.builtin "list.__iadd__" ⟨[n, .str z t], []⟩)) _ _ s
  refine wpAny_bind (wpAny_newObj_type (wpAny_pure ⟨plainId_quiet PySem.F.plain_list_iadd _, codeAny_builtin PySem.F.entry_list_iadd ?_⟩)); rw [Around.under_plainId PySem.F.plain_list_iadd _]
  show wpAny (model prog w) A.in1 (Builtin.List.listExtendWith (.ref s.heap.objs.size) (.str z t) (.ref s.heap.objs.size)) _ _ { s with heap := s.heap.push (seqObj "list" #[] 0) }
  unfold Builtin.List.listExtendWith; refine wpAny_bind (wpAny_typeOf (T := "str") (v := .str z t) rfl ?_)
  simp only [show Builtin.List.listSameRef (.ref s.heap.objs.size) (.str z t) = false from rfl, show (Value.type "str" == Value.type "list") = false by decide, show (Value.type "str" == Value.type "tuple") = false by decide, Bool.or_false, Bool.false_eq_true, if_false]
  generalize hG : s.heap.push (seqObj "list" #[] 0) = G at new0 ⊢
  have hGs : G.objs.size = s.heap.objs.size + 1 := by rw [← hG]; exact Heap.size_push ..
  refine wpAny_bind (wpAny_pyIter_str fun ob St wk st0 => wpAny_bind (wpAny_holding ?_)); unfold Builtin.List.listLengthHint
  refine wpAny_bind (wpAny_specialOf (T := "str") (v := .str z t) rfl PySem.F.str_len ?_)
  wp_delta
  refine wpAny_bind (wpAny_isInstance (T := "str") (v := .str z t) (b := true) rfl (by rw [isSubtype_type]; kernel_rfl) ?_); show wpAny (model prog w) A.in1 (typeOf (Value.str z t) >>= _) _ _ _
  refine wpAny_bind (wpAny_typeOf (T := "str") (v := .str z t) rfl (wpAny_pure ?_)); rw [if_neg (by decide)]
  have apart : s.heap.objs.size ∉ [G.objs.size] := fun hm => by have := List.mem_singleton.mp hm; omega
  refine wpAny_pure ⟨plainId_quiet PySem.F.plain_extend_loop _, codeAny_extend_loopS (wk A.in1 hA).toS hn _ apart _ z.cps.size 0 _ _ _ rfl (Nat.zero_le _) st0 (Heap.get?_push_of_some _ new0) (ItemsOf.nil _) fun s2 vs c2 mv at2 items => ?_⟩
  show wpAny (model prog w) A (load s.heap.objs.size >>= _) _ _ s2
  refine wpAny_bind (wpAny_load at2 (wpAny_pure (q s2 vs (Nat.le_of_lt (Heap.lt_size at2)) (fun b o e => mv.heap b o (fun hb => ?_) (Heap.get?_push_of_some _ (hG ▸ Heap.get?_push_of_some _ e))) mv.gens mv.drawn mv.os items)))
  have lt := Heap.lt_size e
  rcases List.mem_cons.mp hb with h | h
  · rw [h] at lt; exact Nat.lt_irrefl _ lt
  · rw [List.mem_singleton.mp h, hGs] at lt; exact Nat.not_succ_lt_self lt
theorem strs_list : ∀ (vs : List Value) (cs : List Nat), vs.length = cs.length → (∀ (j : Nat) v, vs[j]? = some v → ∃ c u, cs[j]? = some c ∧ v = .str ⟨#[c]⟩ u) → StrsAre vs (cs.map fun k => (⟨#[k]⟩ : Str))
  | [], [], _, _ => .nil
  | [], _ :: _, h, _ => by cases h
  | _ :: _, [], h, _ => by cases h
  | v :: vs, k :: cs, h, a => by
    obtain ⟨c, u, h1, rfl⟩ := a 0 v rfl
    cases h1
    exact .cons _ u (strs_list vs cs (by simpa using h) fun j w hj => a (j + 1) w hj)
theorem strs_items (acc : Array Value) (z : Str) (h : ItemsOf (SignAt z) acc z.cps.size) : StrsAre acc.toList (chrs z) := by
  refine strs_list _ _ (by rw [Array.length_toList, Array.length_toList, h.1]) fun j v hj => ?_
  obtain ⟨c, u, h1, h2⟩ := h.2 j v (by rw [← Array.getElem?_toList]; exact hj)
  exact ⟨c, u, by rw [Array.getElem?_toList]; exact h1, h2⟩
theorem call_sortStr {X : Cx} (hc : X.calm = true) : CallR X (.builtin "sorted") rSortStr := by
  intro pins s σ H xs us Q I r h
  obtain ⟨z, rfl, hl, q⟩ := h
  cases r with
  | cons r1 rs =>
  cases rs
  obtain ⟨t, rfl⟩ := r1
  refine Calls.call_function_entry kind_sorted plain_sorted entry_sorted (args_sorted1 _) ?_
  unfold Builtin.«sorted»
  refine wpAny_bind (m := checkCount "sorted" 1 1 _) (wpAny_pure ?_)
  refine wpAny_bind (collectS (A := X.A.in1) (show X.A.in1.handled = none from I.ok.hd hc) z t hl fun s' acc hge hk hg hd ho hi => ?_)
  have hL : acc.toList.length ≤ sizeLine := by
    rw [Array.length_toList, hi.1]
    exact hl
  refine wpAny_bind (wpAny_newList ?_ hL)
  have hS : StrsAre acc.toList (chrs z) := strs_items acc z hi
  have hoL : (s'.heap.push (seqObj "list" acc.toList.toArray 0)).get? s'.heap.objs.size = some (seqObj "list" acc.toList.toArray 0) := Heap.get?_push_size _ rfl
  show wpAny _ _ _ _ _ { s' with heap := s'.heap.push (seqObj "list" acc.toList.toArray 0) }
  refine wpAny_bind (wpAny_holding (wpAny_call_entry slot_list_sort ⟨_, hoL, rfl⟩ entry_list_sort (list_sort_treeKAny strKind_oneLt hoL hS.keysOf (fun v₁ v₂ rest e => keyKind_strs (by rw [← e]; exact hS)) hL fun st' hp hs => ⟨_, rfl, ?_⟩) (args_list_sort _)))
  refine wpAny_pure ⟨_, rfl, ?_⟩
  obtain ⟨ss', h1, h2, h3⟩ := sorted_out_str hS hp hs
  obtain ⟨e, he⟩ := sortedHeap_at (out := (arrOf st').map (·.2)) hoL
  have hlt : ∀ b u, s.heap.get? b = some u → b < s'.heap.objs.size := fun b u e => Heap.lt_size (hk b u e)
  have hkeep : ∀ b u, s.heap.get? b = some u → (sortedHeap (s'.heap.push (seqObj "list" acc.toList.toArray 0)) s'.heap.objs.size acc.toList ((arrOf st').map (·.2))).get? b = some u := fun b u e => by
    have hb := hlt b u e
    rw [sortedHeap_old (Nat.ne_of_lt hb) (by rw [Heap.size_push]; exact Nat.lt_succ_of_lt hb), Heap.get?_push_ne _ _ _ (Nat.ne_of_lt hb)]
    exact hk b u e
  have hlen : (ss'.map V.str).length ≤ sizeLine := by
    rw [List.length_map, h2.length_eq]
    show ((z.cps.toList.map fun k => (⟨#[k]⟩ : Str))).length ≤ sizeLine
    rw [List.length_map, Array.length_toList]
    exact hl
  have I2 := I.laid (a := s'.heap.objs.size) (o := .lst (ss'.map V.str)) (t' := s'.toks) hkeep hge ⟨hlen, ((arrOf st').map (·.2)).toList, e, vals_of_strs h1, by rw [Array.toArray_toList]; exact he⟩
  refine ⟨.ref _, _, ?_, rfl, q ss' _ h2 h3 (I.hok.fresh hge)⟩
  have es : ({ s' with heap := sortedHeap (s'.heap.push (seqObj "list" acc.toList.toArray 0)) s'.heap.objs.size acc.toList ((arrOf st').map (·.2)) } : Shared) = { s with heap := sortedHeap (s'.heap.push (seqObj "list" acc.toList.toArray 0)) s'.heap.objs.size acc.toList ((arrOf st').map (·.2)), toks := s'.toks } := by
    cases s
    cases s'
    simp only at hg hd ho
    subst hg hd ho
    rfl
  exact es ▸ I2
def insN (k : Nat) : List Nat → List Nat
  | [] => [k]
  | a :: r => if k ≤ a then k :: a :: r else a :: insN k r
def insS : List Nat → List Nat
  | [] => []
  | k :: r => insN k (insS r)
theorem insN_le (a b : Nat) (h : a ≤ b) : ∀ l : List Nat, insN a (insN b l) = insN b (insN a l)
  | [] => by
    simp only [insN, h, if_true]
    by_cases h2 : b ≤ a
    · have : a = b := Nat.le_antisymm h h2
      subst this
      simp
    · simp only [h2, if_false]
  | c :: l => by
    by_cases h1 : b ≤ c
    · have h3 : a ≤ c := Nat.le_trans h h1
      simp only [insN, h1, h3, h, if_true]
      by_cases h2 : b ≤ a
      · have : a = b := Nat.le_antisymm h h2
        subst this
        simp
      · simp only [h2, if_false, h1, if_true]
    · by_cases h3 : a ≤ c
      · have h2 : ¬ b ≤ a := fun z => h1 (Nat.le_trans z h3)
        simp only [insN, h1, h3, h2, if_true, if_false]
      · simp only [insN, h1, h3, if_false]
        rw [insN_le a b h l]
theorem insN_comm (a b : Nat) (l : List Nat) : insN a (insN b l) = insN b (insN a l) := by
  rcases Nat.le_total a b with h | h
  · exact insN_le a b h l
  · exact (insN_le b a h l).symm
theorem insS_perm {a b : List Nat} (h : a.Perm b) : insS a = insS b := by
  induction h with
  | nil => rfl
  | cons x _ ih => simp only [insS, ih]
  | swap x y l => exact insN_comm y x (insS l)
  | trans _ _ i1 i2 => exact i1.trans i2
def mkC (k : Nat) : Str := ⟨#[k]⟩
theorem lt_mkC (a b : Nat) : ltCps (mkC a).cps.toList (mkC b).cps.toList = decide (a < b) := by
  show (decide (a < b) || (a == b && ltCps [] [])) = decide (a < b)
  simp [ltCps]
theorem rise_insS : ∀ (k : Nat) (l : List Nat), risingS (mkC k) (l.map mkC) = true → insS (k :: l) = k :: l
  | k, [], _ => rfl
  | k, a :: l, h => by
    have h : (!ltCps (mkC a).cps.toList (mkC k).cps.toList && risingS (mkC a) (l.map mkC)) = true := h
    rw [Bool.and_eq_true, lt_mkC] at h
    have ih := rise_insS a l h.2
    have h1 : k ≤ a := by
      have := h.1
      simp at this
      exact this
    show insN k (insS (a :: l)) = _
    rw [ih]
    simp only [insN, h1, if_true]
theorem sort_uniq {ys : List Str} {cs : List Nat} (hp : ys.Perm (cs.map mkC)) (hs : sortedS ys = true) : ys = (insS cs).map mkC := by
  have hall : ∀ y ∈ ys, ∃ k, y = mkC k := fun y hy => by
    obtain ⟨k, _, e⟩ := List.mem_map.mp (hp.mem_iff.mp hy)
    exact ⟨k, e.symm⟩
  have hds : ∃ ds : List Nat, ys = ds.map mkC := by
    clear hp hs
    induction ys with
    | nil => exact ⟨[], rfl⟩
    | cons y ys ih =>
      obtain ⟨k, hk⟩ := hall y (List.mem_cons_self ..)
      obtain ⟨ds, e⟩ := ih fun z hz => hall z (List.mem_cons_of_mem _ hz)
      exact ⟨k :: ds, by rw [hk, e]; rfl⟩
  obtain ⟨ds, rfl⟩ := hds
  have hg : ∀ l : List Nat, (l.map mkC).map (fun y => y.cps[0]?.getD 0) = l := fun l => by
    induction l with
    | nil => rfl
    | cons a l ih =>
      rw [List.map_cons, List.map_cons, ih]
      rfl
  have hp2 : ds.Perm cs := by
    have := hp.map (fun y : Str => y.cps[0]?.getD 0)
    rw [hg, hg] at this
    exact this
  have e1 : insS ds = ds := by
    cases ds with
    | nil => rfl
    | cons k l => exact rise_insS k l hs
  rw [← insS_perm hp2, e1]
def sortSD : List D → Option (List D)
  | [.str x] => some ((insS x).map fun k => .str [k])
  | _ => none
theorem insN_len (k : Nat) : ∀ l : List Nat, (insN k l).length = l.length + 1
  | [] => rfl
  | a :: l => by
    simp only [insN]
    split
    · rfl
    · simp [insN_len k l]
theorem insS_len : ∀ l : List Nat, (insS l).length = l.length
  | [] => rfl
  | a :: l => by simp [insS, insN_len, insS_len l]
theorem b_sortS {c : Cn} : CBl c rSortStr sortSD := by
  intro H0 H xs ds l Q s e h nl
  match ds, e with
  | [.str x], e =>
    cases e
    obtain ⟨v, rfl, rfl, hl⟩ := h.one
    refine ⟨sS x, rfl, by rw [sS_len, sizeLine_lim]; exact hl, fun ys p hp hs hH => ?_⟩
    have hu : ys = (insS x).map mkC := sort_uniq (show ys.Perm (x.map mkC) by
      have : chrs (sS x) = x.map mkC := rfl
      rw [← this]; exact hp) hs
    subst hu
    refine nl p _ hH (by rw [List.length_map, insS_len]; exact hl) ?_
    have : ∀ l : List Nat, Dats c H0 (l.map fun k => D.str [k]) ((l.map mkC).map V.str) := fun l => by
      induction l with
      | nil => rfl
      | cons a l ih => exact ⟨.str (mkC a), _, rfl, ⟨rfl, by show 1 ≤ lim; decide⟩, ih⟩
    exact this _
end F
end

section
set_option Elab.async false
set_option linter.all false
set_option autoImplicit false
set_option maxRecDepth 100000
/-! F layer, part P: defs by names. -/
namespace F
open PySem PySem.Spec PyProof.Rows L2
/-- the def that the module's name x stands for: called with some arguments, the defaults dfl behind them, it does as Z says -/
def FnG (P : Program) (w : World) (K : PySem.W.Frag) (mg : Str → Option Value) (base : Heap) (t : Tb) (x : Str) (k n : Nat) (Z : Fn) (dfl : List D) : Prop :=
  ∃ (f : Addr) (fd : FuncData) (ps : List Str) (dvs : List V) (ds : List Value), FO P w K mg base t k f fd ps Z n ∧ mg x = some (.ref f) ∧ PySem.W.keepIn K (.ref f) = true ∧ Binds K fd ps ds ∧ Vals dvs ds ∧ ∀ H, Dats ⟨K, t.cls, t.fld, t.tabs, t.ex, t.exM, t.exR⟩ H dfl dvs
section
variable {X : Cx} {t : Tb} {W : WX} {a : Expr} {es : List Expr} {ms : List (M R)} {pos p : Pos} {x : Str} {k kk n : Nat} {Z : Fn} {dfl : List D}
theorem se_fn (G : FnG X.prog X.w X.K X.mg X.base t x k n Z dfl) (hr : Room kk X.A) (tk : Takes X W) (md : List Md) (ha : SA X t W (a :: es) (mRs ms)) (hg : Gl X x := by rfl) (hk : k ≤ kk := by decide)
    (hn : ms.length + dfl.length = n := by rfl) (hdb : (x == ("__debug__" : Str)) = false := by decide) (he : starEach (a :: es) X.env = (false, eval a X.env) :: starEach es X.env := by rfl) (hpl : (backTo pos (starEach es X.env)).any (·.1) = false := by rfl) :
    SE X t W (.Call (.Name x p) (a :: es) [] pos) (mCall Z md dfl ms) := by
  obtain ⟨f, fd, ps, dvs, ds, G, hm, hk2, hb, hd, hdd⟩ := G
  exact se_call G (hr.mono hk) hg hm hk2 hb hd hdd tk md ha hn hdb he hpl
theorem pe_fn0 {CX : CXT} {f : Addr} {fd : FuncData} {ps : List Str} {sp : Sp} {ds : List Value} {dvs : List V} {E : St → XK} (G0 : FnOk X.prog X.w X.K X.mg X.base CX k f fd ps sp) (hr : Room k X.A) (hg : Gl X x) (hm : X.mg x = some (.ref f)) (hk : PySem.W.keepIn X.K (.ref f) = true) (hb : Binds X.K fd ps ds) (hd : Vals dvs ds) (hx : ∀ σ, PassesAt CX X σ (E σ))
    (hdb : (x == ("__debug__" : Str)) = false := by decide) : PE X (.Call (.Name x p) [] [] pos) (tCallSD sp dvs E tNil) :=
  ⟨fun pins s σ H Q I h => wpAny_Call_Name_kw (ld_glob I hg hm (PySem.W.callWith_K0 I.kIn hk (run_fnSD (us := []) G0 hr hb hd (hx σ) I .nil h)) hdb)⟩
theorem se_fn0 (G : FnG X.prog X.w X.K X.mg X.base t x k n Z dfl) (hr : Room kk X.A) (tk : Takes X W) (hg : Gl X x := by rfl) (hk : k ≤ kk := by decide) (hn : dfl.length = n := by rfl) (hdb : (x == ("__debug__" : Str)) = false := by decide) :
    SE X t W (.Call (.Name x p) [] [] pos) (mCall Z [] dfl []) := by
  obtain ⟨f, fd, ps, dvs, ds, G, hm, hk2, hb, hd, hdd⟩ := G
  refine PE.imp (pe_fn0 G (hr.mono hk) hg hm hk2 hb hd (passAt tk) hdb) fun σ H Q q => ?_
  have := call_ok (ms := []) hdd (by simpa using hn) q
  obtain ⟨e, H0, Fr, as, rp, po⟩ := this
  exact po [] H0 H (Same.refl _) ⟨⟨as, rp⟩, rfl⟩
theorem se_bad : SE X t W a mBad := ⟨fun pins s σ H Q I ⟨_, _, _, _, _, q⟩ => q.elim⟩
theorem u1 (hr : Room k X.A) : X.A.units + 1 < cLine := by have := hr.units; omega
theorem no_takes : Takes X W0 := fun u s' ⟨_, _, _, _, _, _, _, _, _, _, _, _, _, _, _, _, w⟩ => w.elim
end
theorem bt_str : bootBuiltins "str" = some (.type (tyN .str)) := by decide +kernel
/-! ### tables of the text -/
def strD (l : List (List Nat)) : List D := l.map .str
theorem tab_strs {K : PySem.W.Frag} {x : Str} {l : List (List Nat)} (c : Cn) (hK : c.K = K) (h : He.tupB K x (l.map fun z => .str (sS z)) = true) (hl : l.length ≤ lim := by decide) (hz : l.all (fun z => decide (z.length ≤ lim)) = true := by decide) (H : Hp) : Dat c H (.tup (strD l)) (.ref (He.ga K x)) := by
  subst hK
  refine ⟨by simpa [strD] using hl, He.ga c.K x, _, rfl, He.tupB_ok h H, ?_⟩
  have : ∀ l : List (List Nat), l.all (fun z => decide (z.length ≤ lim)) = true → Dats c H (strD l) ((l.map fun z => He.Dv.str (sS z)).map (He.Dv.v c.K)) := fun l => by
    induction l with
    | nil => exact fun _ => rfl
    | cons a l ih =>
      intro h
      rw [List.all_cons, Bool.and_eq_true] at h
      exact ⟨.str (sS a), _, rfl, ⟨rfl, of_decide_eq_true h.1⟩, ih h.2⟩
  exact this l hz
def strKD (l : List (List Nat × List Nat)) : List (List Nat × D) := l.map fun p => (p.1, .str p.2)
theorem tab_kd {K : PySem.W.Frag} {w : World} {X : Cx} {t : Tb} {a : Addr} {l : List (List Nat × List Nat)} (hK : X.K = K) (hw : X.w = w) (hd : ∃ es n, KDict K w a es n) (h : He.valsB K a (l.map fun p => (sS p.1, .str (sS p.2))) = true) (hz : l.all (fun p => decide (p.2.length ≤ lim)) = true := by decide) : KTab X t a (strKD l) := by
  subst hK hw
  intro x d hx
  obtain ⟨es, n, hd⟩ := hd
  have : ∀ m : List (List Nat × List Nat), (strKD m).lookup x = some d → ∃ p ∈ m, p.1 = x ∧ d = .str p.2 := fun m => by
    induction m with
    | nil => exact fun z => by cases z
    | cons p m ih =>
      intro z
      have z : (match x == p.1 with | true => some (D.str p.2) | false => (strKD m).lookup x) = some d := z
      cases q : x == p.1 with
      | true =>
        rw [q] at z
        cases z
        exact ⟨p, List.mem_cons_self .., (eq_of_beq q).symm, rfl⟩
      | false =>
        rw [q] at z
        obtain ⟨p', h1, h2⟩ := ih z
        exact ⟨p', List.mem_cons_of_mem _ h1, h2⟩
  obtain ⟨p, hp, rfl, rfl⟩ := this l hx
  obtain ⟨u, h1, h2⟩ := He.valsB_ok h (q := (sS p.1, .str (sS p.2))) (List.mem_map.mpr ⟨p, hp, rfl⟩)
  refine ⟨.str (sS p.2), ⟨es, n, u, hd.at_, hd.lit, h1, h2⟩, fun H => ⟨rfl, of_decide_eq_true (List.all_eq_true.mp hz p hp)⟩⟩
/-! ### the law's end -/
/-- all but the tables -/
def cutT (T : List (Addr × Option Str)) (H : Hp) : Hp := fun b => if b ∈ T.map (·.1) then none else H b
theorem cutT_same {T : List (Addr × Option Str)} {H : Hp} : Same (cutT T H) H := fun b o e => by
  unfold cutT at e
  split at e
  · cases e
  · exact e
theorem cutT_rd {T : List (Addr × Option Str)} {H : Hp} {a : Addr} {u : HO} (hT : ∀ p ∈ T, H p.1 = some (.tbl #[])) (hu : ∀ ps, u ≠ .tbl ps) (h : Rd H a u) : Rd (cutT T H) a u := by
  have na : a ∉ T.map (·.1) := fun z => by
    obtain ⟨p, hp, e⟩ := List.mem_map.mp z
    have q := hT p hp
    rw [e] at q
    rcases h with h | ⟨o, h⟩
    · rw [h] at q
      exact hu _ (Option.some.inj q)
    · rw [h] at q
      cases q
  unfold Rd cutT
  rw [if_neg na]
  exact h
theorem Rp_script {K : PySem.W.Frag} {t : Tb} {H : Hp} {a : Addr} {ns : List Int} (hl : ns.length ≤ lim) (h : SqL K H a (ns.map V.int)) (hT : ∀ p ∈ t.tabs, H p.1 = some (.tbl #[])) : Rp ⟨K, t.cls, t.fld, t.tabs, t.ex, t.exM, t.exR⟩ (cutT t.tabs H) (fun _ => none) H [some (.ref a)] [some (.sh (.lst (ns.map .int)))] (fun _ => []) := by
  have h' : SqL K (cutT t.tabs H) a (ns.map V.int) := h.elim (fun h => .inl (cutT_rd hT (fun ps z => by cases z) h)) .inr
  have hd : ∀ l : List Int, Dats ⟨K, t.cls, t.fld, t.tabs, t.ex, t.exM, t.exR⟩ (cutT t.tabs H) (l.map D.int) (l.map V.int) := fun l => by
    induction l with
    | nil => rfl
    | cons a l ih => exact ⟨.int a, _, rfl, rfl, ih⟩
  refine ⟨rfl, cutT_same, fun b o (e : none = some o) => (by cases e), fun i o e => ?_, fun i a h => (by cases h), fun i j a h => (by cases h), fun _ => List.nodup_nil, fun _ _ => rfl, fun p hp => ⟨#[], hT p hp, True.intro, fun q _ pos cv hc => ?_⟩, fun p hp => if_pos (List.mem_map.mpr ⟨p, hp, rfl⟩), fun p hp => rfl, fun p hp i z => by cases z⟩
  · match i, e with
    | 0, e =>
      cases e
      exact ⟨.ref a, rfl, rfl, by simpa using hl, a, _, rfl, h', hd ns⟩
  · have z : codeAmong pos [] = some cv := hc
    simp [codeAmong] at z
theorem law_end {t : Tb} {K : PySem.W.Frag} {Z : Fn} (hz : ∀ ns : List Int, ns.length ≤ 63 → ∃ os, Z [.sh (.lst (ns.map .int))] = .rt (.sh (.bl true)) os) (H : Hp) (a : Addr) (ns : List Int) (hl : ns.length ≤ 63) (hT : ∀ p ∈ t.tabs, H p.1 = some (.tbl #[])) (hS : SqL K H a (ns.map V.int)) :
    spF t ⟨K, t.cls, t.fld, t.tabs, t.ex, t.exM, t.exR⟩ Z 1 [.ref a] H (fun v _ => v = .bl true) fun _ _ _ => False := by
  obtain ⟨os, e⟩ := hz ns hl
  refine ⟨rfl, [.sh (.lst (ns.map .int))], cutT t.tabs H, fun _ => none, fun _ => [], Rp_script (Nat.le_trans hl (by decide)) hS hT, ?_⟩
  rw [e]
  rintro v H1 H' s ⟨bs, as, ⟨_, h⟩, _⟩
  exact h
theorem no_exc {P : Program} {w : World} (H : Hp) (s : Shared) (e : Value) (s' : Shared) : L2.CX P w [] H s (fun _ _ _ => False) e s' → False := fun ⟨_, _, _, _, _, _, _, _, _, _, _, _, h⟩ => h
theorem fd_uniq {K : PySem.W.Frag} {x qual : Str} {params : Arguments} {body : List Stmt} {scope : Scope} {dvs : List V} {kws : List (Str × V)} {f : Addr} {fd fd' : FuncData} (h : FunD K x qual params body scope dvs kws f fd) (h' : FunD K x qual params body scope dvs kws f fd') : fd = fd' := by
  obtain ⟨_, _, _, _, _, _, _, _, _, _, _, h1, _⟩ := h.ex
  obtain ⟨_, _, _, _, _, _, _, _, _, _, _, h2, _⟩ := h'.ex
  rw [h1] at h2
  cases h2
  rfl
end F
end

section
set_option Elab.async false
set_option linter.all false
set_option maxRecDepth 100000
set_option maxHeartbeats 2000000
/-! F layer, part Q: next of a generator expression over a text with one test. -/
namespace F
open PySem PySem.Spec PyProof.Rows L2
section
variable {X : Cx} {pins : List (Addr × Obj)} {σ : L2.St} {H : Hp} {s : Shared}
/-- the tests of a generator expression about the sign c -/
def IfsP (prog : Program) (w : World) (globs : Addr) (mg : Str → Option Value) (scope : Scope) (x : Str) (ifs : List Expr) (pz : Nat → Bool) : Prop :=
  ∀ (ce : PySem.Env) (B : Around) (E : Value → Shared → Prop) (k : Nat) (t : Tok) (s2 : Shared) (m2 : Str → Option Value), ce.scope = scope → ce.globals = globs → s2.heap.Ns globs mg → s2.heap.Ns ce.locals m2 → m2 x = some (.str ⟨#[k]⟩ t) →
    wpAny (model prog w) B (forIn ifs true fun q r => if r = true then do let ok ← PySem.isTrue q ce (eval q ce); pure (ForInStep.yield ok) else pure (ForInStep.yield r)) (fun ok s3 => ok = pz k ∧ Keeps s2 s3) E s2
/-- the generator is ready: it yields the signs of l -/
def Yields (X : Cx) (pins : List (Addr × Obj)) (σ : L2.St) (H1 : Hp) (P : Addr) (l : List Nat) (g : Addr) (s5 : Shared) : Prop :=
  ∃ (fp wr : List Addr) (G : Array GenState → Array GenState → Prop) (Fv : Nat → Value → Prop) (St : Nat → Shared → Prop),
    WalksS X.prog X.w X.A.in1 g fp wr G l.length Fv St ∧ St 0 s5 ∧ s5.TypeIs (.ref g) "generator" ∧ (∀ j y, Fv j y → ∃ k t, l[j]? = some k ∧ y = .str ⟨#[k]⟩ t) ∧
    ∀ s', Moved wr G s5 s' → ∃ H2, GxR.Tabbed P H1 H2 ∧ Inv X pins σ H2 s'
theorem pass_map {l : List Nat} {pz : Nat → Bool} : ((passing (GxR.trF pz l) l.length 0).filterMap fun i => l[i]?) = l.filter pz ∧ ∀ i ∈ passing (GxR.trF pz l) l.length 0, i < l.length := by
  constructor
  · have key : ∀ (n : Nat), n ≤ l.length → (((List.range l.length).drop n).filter (GxR.trF pz l)).filterMap (fun i => l[i]?) = (l.drop n).filter pz := by
      intro n hn
      induction h : l.length - n generalizing n with
      | zero =>
        have : n = l.length := by omega
        subst this
        rw [List.drop_of_length_le (by simp), List.drop_of_length_le (Nat.le_refl _)]
        rfl
      | succ j ih =>
        have hl : n < l.length := by omega
        rw [range_drop hl, List.drop_eq_getElem_cons hl, List.filter_cons, List.filter_cons, GxR.trF_some (List.getElem?_eq_getElem hl)]
        have := ih (n + 1) hl (by omega)
        by_cases z : pz l[n] = true
        · rw [if_pos z, if_pos z, List.filterMap_cons, List.getElem?_eq_getElem hl]
          exact congrArg _ this
        · rw [if_neg z, if_neg z]
          exact this
    exact key 0 (Nat.zero_le _)
  · intro i hi
    have := (List.mem_filter.mp hi).1
    simpa using this
theorem pass_get {l : List Nat} {pz : Nat → Bool} : (passing (GxR.trF pz l) l.length 0).length = (l.filter pz).length ∧ ∀ j i : Nat, (passing (GxR.trF pz l) l.length 0)[j]? = some i → (l.filter pz)[j]? = l[i]? := by
  obtain ⟨h1, h2⟩ := pass_map (l := l) (pz := pz)
  generalize passing (GxR.trF pz l) l.length 0 = q at h1 h2
  rw [← h1]
  clear h1
  induction q with
  | nil => exact ⟨rfl, fun j i h => by simp at h⟩
  | cons a q ih =>
    have ha := h2 a (List.mem_cons_self ..)
    obtain ⟨i1, i2⟩ := ih fun i hi => h2 i (List.mem_cons_of_mem _ hi)
    rw [List.filterMap_cons, List.getElem?_eq_getElem ha]
    refine ⟨by simp [i1], fun j i h => ?_⟩
    cases j with
    | zero =>
      simp at h
      subst h
      simp [List.getElem?_eq_getElem ha]
    | succ j => simpa using i2 j i (by simpa using h)
theorem gen_if {c P : Addr} {iter : Expr} {x : Str} {px pe gpos : Pos} {ifs : List Expr} {scope : Scope} {pz : Nat → Bool} {te : TE} {k : Nat} {Qf : Value → Shared → Prop} {R : Str → Hp → Prop}
    (hr : Room k X.A) (TB : LamX.TabB X.base X.mg c P) (hcode : X.env.code = .ref c) (S : GxR.GenS X.env scope x) (hi : PE X iter te) (hif : IfsP X.prog X.w X.env.globals X.mg scope x ifs pz)
    (hs : ∀ v, genFold iter X.env v = pure v) (I : Inv X pins σ H s) (h : te σ H fun v H1 => ∃ a : Str, v = .str a ∧ GxR.TabG H1 P ∧ R a H1) (hdb : (x == ("__debug__" : Str)) = false)
    (hQ : ∀ a H1 g s5, R a H1 → Yields X pins σ H1 P (a.cps.toList.filter pz) g s5 → Qf (.ref g) s5) :
    wpAny (model X.prog X.w) X.A (eval (.GeneratorExp (.Name x pe) [⟨.Name x px, iter, ifs, 0⟩] scope gpos) X.env) Qf X.xe s := by
  refine wpAny_GeneratorExp_walksQ hr.hd S.co (closure_ok S.free) S.cell S.dot S.loc S.kind (by have d := hr.dp; omega) ?_ hs
  refine thn (hi.run pins s σ H _ I h) fun xv s1 ⟨v, H1, I1, r1, q1⟩ => ?_
  obtain ⟨a, rfl, ⟨ps, hP, ht⟩, q1⟩ := q1
  obtain ⟨t0, rfl⟩ := _root_.id r1
  refine wpAny_pyIter_str fun io St0 Wk hst => ?_
  have gP1 : s1.heap.get? P = some { cls := .none, data := .fields ps } := I1.hok P _ hP
  have gP2 : (s1.heap.push io).get? P = some { cls := .none, data := .fields ps } := Heap.get?_push_of_some _ gP1
  have ltP := Heap.lt_size gP1
  have hdc : PySem.W.CodeHd (s1.heap.push io) c P := TB.code.keeps fun b u e => Heap.get?_push_of_some _ (I1.bk b u e)
  have lim1 : (s1.heap.push io).NoLimit := I1.nolimit.push io
  have nsG : s1.heap.Ns mainGlobals X.mg := I1.mod.glob.keeps I1.bk
  have eG : X.env.globals = mainGlobals := I1.ok.glob
  -- behind the code object
  have rest : ∀ (code : Value) (h3 : Heap) (tk : Nat) (ps3 : Array Value), Heap.ExtBut P (s1.heap.push io) h3 → (s1.heap.push io).objs.size ≤ h3.objs.size → h3.get? P = some { cls := .none, data := .fields ps3 } → (∃ more, ps3 = ps ++ more) → TriplesOk ps3.toList →
      wpAny (model X.prog X.w) X.A (builtinsFor X.env.globals X.env.builtins) (fun bi s4 =>
        ∃ Ia fp wr n0 Pf S0 pz' Fv, Value.ref s1.heap.objs.size = .ref Ia ∧ (∀ B : Around, B.handled = none → Walks X.prog X.w B Ia fp wr n0 Pf S0) ∧ S0 0 s4.heap ∧ (∀ b ∈ fp, b < s4.heap.objs.size) ∧ s4.heap.NoLimit ∧ cStatics ∉ wr ∧
          (∀ href : Heap, (∀ b o, s4.heap.get? b = some o → href.get? b = some o) →
            QuietGen X.prog X.w (genEnv scope (cloFrom X.env.cells scope.names []) s4.heap.objs.size code bi X.env) x ifs (.Name x pe) (List.range s4.heap.objs.size) wr Pf pz' Fv href) ∧
          (∀ g h5 tk5 gs, gs.bare = true → s4.heap.objs.size < g → h5.objs.size = g + 1 → (∀ b o, s4.heap.get? b = some o → h5.get? b = some o) →
            WalksS X.prog X.w X.A.in4 g (g :: s4.heap.objs.size :: List.range s4.heap.objs.size) (s4.heap.objs.size :: wr) (GenOnlyQ s4.gens.size) (passing pz' n0 0).length
              (fun j y => ∃ i, (passing pz' n0 0)[j]? = some i ∧ Fv i y) (GenAt X.prog X.w X.A.in4 g s4.gens.size s4.heap.objs.size (List.range s4.heap.objs.size) wr pz' n0 Fv) →
            GenAt X.prog X.w X.A.in4 g s4.gens.size s4.heap.objs.size (List.range s4.heap.objs.size) wr pz' n0 Fv 0 { s4 with gens := s4.gens.push gs, toks := tk5, heap := h5 } →
            Qf (.ref g) { s4 with gens := s4.gens.push gs, toks := tk5, heap := h5 })) X.xe { s1 with heap := h3, toks := tk } := by
    intro code h3 tk ps3 hx hsz hP3 hmore ht3
    obtain ⟨bm, ob, f1, f2, f3, f4, f5, f6, f7, f8⟩ := TB.bm
    have neC : cStatics ≠ P := fun z => by
      obtain ⟨_, hns, _⟩ := I1.nolimit
      obtain ⟨o', es, ep, ho, hd, _⟩ := hns
      rw [z, gP1] at ho
      cases ho
      cases hd
    have ltC : cStatics < s1.heap.objs.size := let ⟨_, hns, _⟩ := I1.nolimit; hns.lt
    have sz1 : (s1.heap.push io).objs.size = s1.heap.objs.size + 1 := Heap.size_push ..
    have kp : ∀ b u, b ≠ P → s1.heap.get? b = some u → h3.get? b = some u := fun b u hb z => hx b u hb (Heap.get?_push_of_some _ z)
    refine wpAny_builtinsFor (m := X.mg) (by rw [eG]; exact (nsG.push io).extBut hx TB.gP) f1 f2 (kp _ _ f4 (I1.bk _ _ f5)) f6 f7 f8 ?_
    refine ⟨s1.heap.objs.size, [s1.heap.objs.size], [s1.heap.objs.size], a.cps.size, SignAt a, St0, GxR.trF pz a.cps.toList, (fun i y => ∃ kk t, a.cps[i]? = some kk ∧ y = .str ⟨#[kk]⟩ t), rfl, Wk, ?_, ?_, lim1.extBut hx neC, ?_, ?_, ?_⟩
    · refine (Wk X.A hr.hd).frame _ _ _ hst fun b hb u z => hx b u (fun q => ?_) z
      rcases List.mem_cons.mp hb with q2 | q2
      · exact Nat.ne_of_lt ltP (q.symm.trans q2)
      · cases q2
    · intro b hb
      rcases List.mem_cons.mp hb with q | q
      · rw [q]
        show s1.heap.objs.size < h3.objs.size
        omega
      · cases q
    · intro q
      rcases List.mem_cons.mp q with q | q
      · exact Nat.ne_of_lt ltC q
      · cases q
    · intro href hh
      have nsR : ∀ s2 : Shared, (∀ b ∈ List.range h3.objs.size, b ∉ [s1.heap.objs.size] → ∀ o, href.get? b = some o → s2.heap.get? b = some o) → s2.heap.Ns X.env.globals X.mg := fun s2 hk => by
        rw [eG]
        obtain ⟨o', es, ep, ho, rs⟩ := (nsG.push io).extBut hx TB.gP
        have l1 := Heap.lt_size ho
        have l2 : mainGlobals < s1.heap.objs.size := nsG.lt
        exact ⟨o', es, ep, hk _ (List.mem_range.mpr l1) (fun q => by
          have q := List.mem_singleton.mp q
          rw [q] at l2
          exact Nat.lt_irrefl _ l2) _ (hh _ _ ho), rs⟩
      refine ⟨fun B E i v s2 m2 hB hPv hn hm hk => ?_, fun B E i v s2 m2 hB hPv hp hn hm hk => ?_⟩
      · obtain ⟨kk, u, hcc, rfl⟩ := hPv
        have e9 : a.cps.toList[i]? = some kk := by rw [Array.getElem?_toList]; exact hcc
        rw [GxR.trF_some e9]
        exact hif _ B E kk u s2 m2 rfl rfl (nsR s2 hk) hn hm
      · obtain ⟨kk, u, hcc, rfl⟩ := hPv
        refine wpAny_Name (wpAny_loadName_local S.kind S.loc hn hm ?_) hdb
        exact ⟨⟨kk, u, hcc, rfl⟩, GxR.keeps_refl _⟩
    · intro g h5 tk5 gs hgb hag hsz5 hk5 W5 hat
      have e8 : a.cps.size = a.cps.toList.length := by simp
      obtain ⟨p1, p2⟩ := pass_get (l := a.cps.toList) (pz := pz)
      have W6 := W5.in4_1
      rw [e8, p1] at W6
      rw [e8] at hat
      refine hQ a H1 g _ q1 ⟨_, _, _, _, _, W6, hat, hat.1.typeIs, ?_, fun s' hm => ?_⟩
      · intro j y hy
        obtain ⟨i, hij, kk, t, hcc, ey⟩ := hy
        refine ⟨kk, t, ?_, ey⟩
        rw [p2 j i hij, Array.getElem?_toList]
        exact hcc
      · obtain ⟨more, em⟩ := hmore
        have out : ∀ b u, s1.heap.get? b = some u → b ∉ h3.objs.size :: [s1.heap.objs.size] := fun b u z hb => by
          have hl := Heap.lt_size z
          rcases List.mem_cons.mp hb with q | q
          · rw [q] at hl
            have h9 : (h3.objs.size : Nat) < s1.heap.objs.size := hl
            omega
          · rcases List.mem_cons.mp q with q | q
            · rw [q] at hl
              exact Nat.lt_irrefl _ hl
            · cases q
        have J := GxR.inv_tab (more := more) (h' := s'.heap) (g' := s'.gens) (d' := s'.drawn) (t' := s'.toks) I1 hP (fun b u hb z => hm.heap b u (out b u z) (hk5 b u (kp b u hb z)))
          (by rw [← em]; exact hm.heap P _ (out P _ gP1) (hk5 P _ hP3)) (AllBare.movedS (I1.bare.push hgb) hm)
        rw [GxR.sh_eta s1 s' hm.os] at J
        exact ⟨upd H1 P (.tbl (ps ++ more)), ⟨⟨ps ++ more, upd_same, by rw [← em]; exact ht3⟩, fun b hb => upd_ne hb⟩, J⟩
  refine ⟨lim1, ?_⟩
  cases hf : codeAmong gpos ps.toList with
  | none =>
    refine wpAny_genexprCodeX hcode (hdc.code gP2 ht) (hdc.tab gP2) hf fun c2 h2 tk hx hge hlt hco2 _ htab _ => ?_
    obtain ⟨_, _, _, _, _, _, _, _, _, _, _, _, _, _, _, _, _, _, _, htr, _⟩ := hco2
    exact rest _ h2 tk _ hx (Nat.le_trans hge (Nat.le_of_lt hlt)) htab.2 ⟨_, rfl⟩ htr
  | some cv =>
    refine wpAny_genexprCode_hit hcode (hdc.code gP2 ht) hf ?_
    exact rest cv (s1.heap.push io) s1.toks ps (Heap.ExtBut.refl _ _) (Nat.le_refl _) gP2 ⟨#[], by simp⟩ ht
end
section
variable {prog : Program} {w : World} {A : Around} {E : Value → Shared → Prop} {s : Shared}
theorem call_nextW {g : Addr} {dv : Value} {Q : Value → Shared → Prop} (hT : s.TypeIs (.ref g) "generator") (h : wpAny (model prog w) A.in1 (pyNext (.ref g)) (fun o s' => Q (o.getD dv) s') E s) :
    wpAny (model prog w) A (call (.builtin "next") [.ref g, dv]) Q E s := by
  refine Calls.call_function_entry (by decide +kernel) (by decide +kernel) PySem.W.kdk_entry_next (PySem.W.kdk_args_next2 _ _) ?_
  unfold Builtin.«next»
  refine wpAny_bind (m := someArgs "next" 1 2 _) (wpAny_of_eq (a := [Value.ref g, dv]) (by first | rfl | kernel_rfl!) ?_)
  dsimp only
  refine wpAny_bind (wpAny_specialOf (name := Str.ofString "__next__") hT slot_gen_next.lookup ?_)
  refine wpAny_ite_split (fun hab => absurd hab (by decide)) (fun _ => ?_)
  exact wpAny_bind (wpAny_mono h (fun o s' q => wpAny_pure ⟨_, rfl, q⟩) fun _ _ z => z)
end
/-- next((x for x in e if test), None), e a text -/
def tNextS (P : Addr) (pz : Nat → Bool) (te : TE) : TE := fun σ H Q => te σ H fun v H1 => ∃ a : Str, v = .str a ∧ GxR.TabG H1 P ∧ ∀ H2, GxR.Tabbed P H1 H2 → Q (match a.cps.toList.find? pz with | some k => .str ⟨#[k]⟩ | none => .non) H2
theorem find_filter {l : List Nat} {pz : Nat → Bool} : l.find? pz = (l.filter pz)[0]? := by
  induction l with
  | nil => rfl
  | cons a l ih =>
    rw [List.find?_cons, List.filter_cons]
    cases h : pz a with
    | true => simp
    | false => simpa using ih
section
variable {X : Cx}
theorem pe_nextS {c P : Addr} {iter : Expr} {x : Str} {px pe p pos gpos dpos : Pos} {dj : Nat} {ifs : List Expr} {scope : Scope} {pz : Nat → Bool} {te : TE} {k : Nat}
    (hr : Room k X.A) (hg : Gl X "next") (hm : X.mg "next" = none) (TB : LamX.TabB X.base X.mg c P) (hcode : X.env.code = .ref c) (S : GxR.GenS X.env scope x) (hi : PE X iter te) (hif : IfsP X.prog X.w X.env.globals X.mg scope x ifs pz)
    (hs : ∀ v, genFold iter X.env v = pure v) (hdb : (x == ("__debug__" : Str)) = false)
    (he : starEach [.GeneratorExp (.Name x pe) [⟨.Name x px, iter, ifs, 0⟩] scope gpos, .Constant .none dj dpos] X.env = (false, eval (.GeneratorExp (.Name x pe) [⟨.Name x px, iter, ifs, 0⟩] scope gpos) X.env) :: starEach [.Constant .none dj dpos] X.env := by rfl)
    (he2 : starEach [.Constant .none dj dpos] X.env = [(false, eval (.Constant .none dj dpos) X.env)] := by rfl) :
    PE X (.Call (.Name "next" p) [.GeneratorExp (.Name x pe) [⟨.Name x px, iter, ifs, 0⟩] scope gpos, .Constant .none dj dpos] [] pos) (tNextS P pz te) := by
  refine ⟨fun pins s σ H Q I h => ?_⟩
  refine wpAny_Call_Name_kw (ld_blt (u := .builtin "next") I hg hm boot_next ?_)
  refine PyProof.Rows.callWith_builtin1 ?_ he (by rw [he2]; rfl)
  rw [he, he2]
  refine Calls.spliced_cons (gen_if (R := fun a H1 => ∀ H2, GxR.Tabbed P H1 H2 → Q (match a.cps.toList.find? pz with | some k => .str ⟨#[k]⟩ | none => .non) H2) hr TB hcode S hi hif hs I h hdb fun a H1 g s5 hR hG => ?_)
  refine Calls.spliced_cons (PyProof.Rows.Constant_none (k := dj) (pos := dpos) (Calls.spliced_nil ?_))
  obtain ⟨fp, wr, G, Fv, St, W, hst, hT, hF, hI⟩ := hG
  refine call_nextW hT ?_
  rw [find_filter] at hR
  cases hl : (a.cps.toList.filter pz) with
  | nil =>
    have hlen : (a.cps.toList.filter pz).length = 0 := by rw [hl]; rfl
    rw [← hlen] at hst
    refine W.done _ _ _ hst fun s' hm2 => ?_
    obtain ⟨H2, hTb, J⟩ := hI s' hm2
    refine ⟨.non, H2, J, rfl, ?_⟩
    have := hR H2 hTb
    rw [hl] at this
    exact this
  | cons k0 r =>
    refine W.item 0 _ _ _ (by rw [hl]; simp) hst fun v s' hv _ hm2 => ?_
    obtain ⟨kk, t, h0, rfl⟩ := hF 0 v hv
    rw [hl] at h0
    cases h0
    obtain ⟨H2, hTb, J⟩ := hI s' hm2
    refine ⟨.str ⟨#[k0]⟩, H2, J, ⟨t, rfl⟩, ?_⟩
    have := hR H2 hTb
    rw [hl] at this
    exact this
end
/-! ### tests -/
/-- x in NAME, NAME a text of the module -/
theorem ifs_in {prog : Program} {w : World} {globs : Addr} {mg : Str → Option Value} {scope : Scope} {x y : Str} {l : List Nat} {p1 p2 p3 : Pos} (hk : scope.kind = .function) (hl : scope.names.lookup x = some .local) (hy : ∀ ce : PySem.Env, ce.scope = scope → ce.kindOf y = some .globalImplicit)
    (hm : ∃ u, mg y = some (.str (sS l) u)) (hd : (x == ("__debug__" : Str)) = false := by decide) (hd2 : (y == ("__debug__" : Str)) = false := by decide) :
    IfsP prog w globs mg scope x [.Compare (.Name x p1) [.In] [.Name y p2] p3] (fun k => decide (k ∈ l)) := by
  intro ce B E k t s2 m2 hs hgl hG hn hx
  obtain ⟨u, hmy⟩ := hm
  simp only [List.forIn_cons, List.forIn_nil, if_true]
  refine wpAny_bind (wpAny_bind (wpAny_isTrue_Compare1 ?_))
  refine wpAny_Name (wpAny_loadName_local (by rw [hs]; exact hk) (show ce.scope.names.lookup x = some .local by rw [hs]; exact hl) hn hx ?_) hd
  refine Calls.Name_function_global (by rw [hs]; exact hk) (hy ce hs) (Calls.loadGlobal_global (by rw [hgl]; exact hG) hmy ?_) hd2
  refine PyProof.Rows.in_str ?_
  refine wpAny_truthy_bool ?_
  have e : (!(Builtin.Str.occurrences (sS l) ⟨#[k]⟩ 0 (sS l).length 1).isEmpty) = decide (k ∈ l) := by
    rw [PySem.StrLaws.found_one (sS l) k, sS_tl]
  refine wpAny_pure ?_
  rw [e]
  exact wpAny_pure ⟨rfl, GxR.keeps_refl _⟩
end F
end

section
set_option Elab.async false
set_option linter.all false
set_option maxRecDepth 100000
set_option maxHeartbeats 2000000
/-! F layer, part R: next; all, any; find, rfind; zip; range with two ends; forgetting. -/
namespace F
open PySem PySem.Spec PyProof.Rows L2
/-! ### tables -/
/-- a table has grown -/
theorem Rp.tabbed {c : Cn} {H0 Fr H H2 : Hp} {σ : St} {e : Env} {as : Nat → List Addr} (r : Rp c H0 Fr H σ e as) {p : Addr × Option Str} (hp : p ∈ c.tabs) (hu : ∀ q ∈ c.tabs, q.1 = p.1 → q.2 = none) (h : GxR.Tabbed p.1 H H2) : Rp c H0 Fr H2 σ e as := by
  obtain ⟨⟨ps, h1, h2⟩, h3⟩ := h
  have ne : ∀ b, b ≠ p.1 → H2 b = H b := h3
  refine ⟨r.len, fun b o e => ?_, fun b o e => ?_, fun i o e => ?_, r.off, r.sep, r.nd, r.emp, ⟨fun q hq => ?_, r.tab.n0, r.tab.nF, r.tab.na⟩⟩
  · rw [ne b fun z => by rw [z, r.tab.n0 p hp] at e; cases e]
    exact r.sub b o e
  · rw [ne b fun z => by rw [z, r.tab.nF p hp] at e; cases e]
    exact r.fr b o e
  · obtain ⟨v, g1, g2⟩ := r.own i o e
    exact ⟨v, g1, OwnR.mono (fun _ _ z => z) o v _ (fun a ha => ne a fun z => r.tab.na p hp i (z ▸ ha)) g2⟩
  · by_cases z : q.1 = p.1
    · refine ⟨ps, by rw [z]; exact h1, h2, fun nm hn => ?_⟩
      rw [hu q hq z] at hn
      cases hn
    · exact (r.tab.at_ q hq).mono (Same.refl _) (ne _ z)
theorem Rp.tabG {c : Cn} {H0 Fr H : Hp} {σ : St} {e : Env} {as : Nat → List Addr} (r : Rp c H0 Fr H σ e as) {p : Addr × Option Str} (hp : p ∈ c.tabs) : GxR.TabG H p.1 := by
  obtain ⟨ps, h1, h2, _⟩ := r.tab.at_ p hp
  exact ⟨ps, h1, h2⟩
/-- next((x for x in e if f), None) -/
def mNextS (f : Nat → Bool) (a : M R) : M R := fun e => andThen (a e) fun r e1 => match peek r e1 with
  | some (.str x) => .ok (.d (match x.find? f with | some k => .str [k] | none => .non)) e1
  | _ => .bad
section
variable {X : Cx} {t : Tb} {W : WX} {P : Nat → Bool}
theorem se_nextS {c : Addr} {q : Addr × Option Str} {iter : Expr} {ma : M R} {x : Str} {px pe p pos gpos dpos : Pos} {dj : Nat} {ifs : List Expr} {scope : Scope} {pz : Nat → Bool} {k : Nat}
    (hr : Room k X.A) (hg : Gl X "next") (hm : X.mg "next" = none) (TB : LamX.TabB X.base X.mg c q.1) (hq : q ∈ t.tabs) (hu : ∀ z ∈ t.tabs, z.1 = q.1 → z.2 = none) (hcode : X.env.code = .ref c) (S : GxR.GenS X.env scope x) (ha : SE X t W iter ma) (hif : IfsP X.prog X.w X.env.globals X.mg scope x ifs pz)
    (hs : ∀ v, genFold iter X.env v = pure v) (hdb : (x == ("__debug__" : Str)) = false)
    (he : starEach [.GeneratorExp (.Name x pe) [⟨.Name x px, iter, ifs, 0⟩] scope gpos, .Constant .none dj dpos] X.env = (false, eval (.GeneratorExp (.Name x pe) [⟨.Name x px, iter, ifs, 0⟩] scope gpos) X.env) :: starEach [.Constant .none dj dpos] X.env := by rfl)
    (he2 : starEach [.Constant .none dj dpos] X.env = [(false, eval (.Constant .none dj dpos) X.env)] := by rfl) :
    SE X t W (.Call (.Name "next" p) [.GeneratorExp (.Name x pe) [⟨.Name x px, iter, ifs, 0⟩] scope gpos, .Constant .none dj dpos] [] pos) (mNextS pz ma) := by
  refine PE.imp (pe_nextS hr hg hm TB hcode S ha hif hs hdb he he2) fun σ H Q ⟨e, H0, Fr, as, rp, po⟩ => ?_
  refine ⟨e, H0, Fr, as, rp, po.bind fun ra e1 v H1 H' s rr po => ?_⟩
  cases q0 : peek ra e1 with
  | none => rw [q0] at po; exact po.elim
  | some d =>
    rw [q0] at po
    cases d with
    | str z =>
      obtain ⟨H2, as2, s2, rp2, hd⟩ := rr.peek q0
      obtain ⟨rfl, hl⟩ := hd
      refine ⟨sS z, rfl, rp2.tabG hq, fun H3 hT => ?_⟩
      have rp3 := rp2.tabbed hq hu hT
      rw [sS_tl]
      refine po _ H2 H3 s2 ⟨⟨as2, rp3⟩, ?_⟩
      cases z.find? pz with
      | none => exact rfl
      | some k => exact ⟨rfl, by show 1 ≤ lim; decide⟩
    | _ => exact po.elim
end
/-! ### all, any of a list of bools -/
def blsOf : List D → Option (List Bool)
  | [] => some []
  | .bl b :: r => (blsOf r).map (b :: ·)
  | _ :: _ => none
def anyD : List D → Option D
  | [.lst l] => (blsOf l).map fun bs => .bl (bs.any id)
  | _ => none
def allD : List D → Option D
  | [.lst l] => (blsOf l).map fun bs => .bl (bs.all id)
  | _ => none
theorem blsOf_vals {c : Cn} {H : Hp} : ∀ {l : List D} {bs : List Bool} {vs : List V}, blsOf l = some bs → Dats c H l vs → vs = bs.map V.bl
  | [], bs, vs, e, h => by
    cases e
    exact h
  | d :: l, bs, vs, e, ⟨v, r, h1, h2, h3⟩ => by
    cases d with
    | bl b =>
      have e : (blsOf l).map (b :: ·) = some bs := e
      cases q : blsOf l with
      | none => rw [q] at e; cases e
      | some bs2 =>
        rw [q] at e
        cases e
        have := blsOf_vals q h3
        subst this
        cases h2
        subst h1
        rfl
    | _ => cases e
theorem b_any {c : Cn} : CB c (rAny c.K) anyD := by
  intro H0 H xs ds dz Q s e h o
  match ds, e with
  | [.lst l], e =>
    cases q : blsOf l with
    | none =>
      have e : (blsOf l).map _ = some dz := e
      rw [q] at e; cases e
    | some bs =>
      have e : (blsOf l).map _ = some dz := e
      rw [q] at e
      cases e
      obtain ⟨v, rfl, hl, a, vs, rfl, h2, h3⟩ := h.one
      have := blsOf_vals q h3
      subst this
      exact ⟨a, bs, rfl, h2, o.bl⟩
theorem b_all {c : Cn} : CB c (rAll c.K) allD := by
  intro H0 H xs ds dz Q s e h o
  match ds, e with
  | [.lst l], e =>
    cases q : blsOf l with
    | none =>
      have e : (blsOf l).map _ = some dz := e
      rw [q] at e; cases e
    | some bs =>
      have e : (blsOf l).map _ = some dz := e
      rw [q] at e
      cases e
      obtain ⟨v, rfl, hl, a, vs, rfl, h2, h3⟩ := h.one
      have := blsOf_vals q h3
      subst this
      exact ⟨a, bs, rfl, h2, o.bl⟩
theorem boot_anyF : bootBuiltins "any" = some (.builtin "any") := by decide +kernel
theorem boot_allF : bootBuiltins "all" = some (.builtin "all") := by decide +kernel
/-! ### find, rfind -/
def findD (x : List Nat) : D → Option D
  | .str y => some (.int (Txt.find (sS x) (sS y)))
  | _ => none
def rfindD (x : List Nat) : D → Option D
  | .str y => some (.int (Txt.rfind (sS x) (sS y)))
  | _ => none
theorem sm_find {c : Cn} : SMt1 c (fun x xs H Q => ∃ a b, x = .str a ∧ xs = [.str b] ∧ Q (.int (Txt.find a b)) H) findD := by
  intro H0 H x y dy dz Q s hl e hd o
  match dy, e with
  | .str z, e =>
    cases e
    obtain ⟨rfl, _⟩ := hd
    exact ⟨_, _, rfl, rfl, o.int⟩
theorem sm_rfind {c : Cn} : SMt1 c (fun x xs H Q => ∃ a b, x = .str a ∧ xs = [.str b] ∧ Q (.int (Txt.rfind a b)) H) rfindD := by
  intro H0 H x y dy dz Q s hl e hd o
  match dy, e with
  | .str z, e =>
    cases e
    obtain ⟨rfl, _⟩ := hd
    exact ⟨_, _, rfl, rfl, o.int⟩
/-! ### zip -/
def zipF : List D → List D → List D
  | x :: xs, y :: ys => .tup [x, y] :: zipF xs ys
  | _, _ => []
def zipR : D → D → Env → Rs (List D)
  | .lst xs, .lst ys, e => .ok (zipF xs ys) e
  | _, _, _ => .bad
def mItZ (a b : M R) : M (List D) := fun e => andThen (a e) fun r e1 => andThen (leak r e1) fun x e2 => andThen (b e2) fun q e3 => andThen (leak q e3) fun y e4 => zipR x y e4
section
variable {X : Cx} {t : Tb} {W : WX} {a b : Expr} {ma mb : M R} {pos p tpos : Pos} {elts : List Expr} {kk : Nat}
end
/-! ### names forgotten -/
def sDrop (m : MS) (is : List Nat) : MS := fun e => match m e with
  | .nx e1 => .nx (wipeE e1 is)
  | .ct e1 => .ct (wipeE e1 is)
  | r => r
section
variable {X : Cx} {t : Tb} {W : WX} {P : Nat → Bool} {st : Stmt} {sts : List Stmt} {m : MS}
theorem Rp.dropAll {c : Cn} {H0 Fr H : Hp} {σ : St} : ∀ {is : List Nat} {e : Env} {as : Nat → List Addr}, Rp c H0 Fr H σ e as → ∃ as', Rp c H0 Fr H σ (wipeE e is) as'
  | [], e, as, r => ⟨as, r⟩
  | i :: is, e, as, r => Rp.dropAll (is := is) (r.drop i)
theorem PoS.drop {Fr H0 : Hp} {σ : St} {D : Ends} {c : Cn} {e : Env} {is : List Nat} (po : PoS t c W P Fr σ H0 D (sDrop m is e)) : PoS t c W P Fr σ H0 D (m e) := by
  unfold sDrop at po
  cases q : m e with
  | nx e1 =>
    rw [q] at po
    intro σ' H1 H' as s p rp
    obtain ⟨as2, rp2⟩ := Rp.dropAll (is := is) rp
    exact po σ' H1 H' as2 s p rp2
  | ct e1 =>
    rw [q] at po
    intro σ' H1 H' as s p rp
    obtain ⟨as2, rp2⟩ := Rp.dropAll (is := is) rp
    exact po σ' H1 H' as2 s p rp2
  | bk e1 => rw [q] at po; exact po
  | rt o e1 => rw [q] at po; exact po
  | ex k p e1 => rw [q] at po; exact po
  | bad => rw [q] at po; exact po
theorem ss_drop (is : List Nat) (h : SS X t W P st m) : SS X t W P st (sDrop m is) := PS.imp h fun D σ H ⟨e, H0, Fr, as, rp, po⟩ => ⟨e, H0, Fr, as, rp, po.drop⟩
theorem sss_drop (is : List Nat) (h : SSs X t W P sts m) : SSs X t W P sts (sDrop m is) := PSs.imp h fun D σ H ⟨e, H0, Fr, as, rp, po⟩ => ⟨e, H0, Fr, as, rp, po.drop⟩
end
/-! ### for the generator -/
theorem code_of {K : PySem.W.Frag} {x qual : Str} {params : Arguments} {body : List Stmt} {scope : Scope} {dvs : List V} {kws : List (Str × V)} {n : Str} {fd : FuncData} {cdv : Value} (F : FunD K x qual params body scope dvs kws (He.ga K n) fd) (h : cdv = fd.code) (hc : PySem.W.codeIn K cdv qual = true) : cdv = .ref (He.cT K (n, none)).1 := by
  obtain ⟨oc, od, dV, kV, doc, pm, an, cdv', ct, osl, rfl, lk, hcd, _, _⟩ := F.ex
  obtain ⟨c, e⟩ := He.codeIn_ref hc
  have e2 : (PySem.W.fnOf x qual params body scope dV kV doc pm an cdv' ct).code = Value.ref c := h.symm.trans e
  rw [e]
  exact congrArg Value.ref (He.codeOf_eq (p := (n, none)) lk e2).symm
def genSB (scope : Scope) (x : Str) : Bool := decide (scope.kind = .function) && !scope.isCoroutine && scope.names.all (fun y => decide (y.2 ≠ .cell) && decide (y.2 ≠ .free)) && decide (scope.names.lookup (".0" : Str) = some NameKind.local) && decide (scope.names.lookup x = some .local)
theorem genS {env : PySem.Env} {scope : Scope} {x : Str} (h : genSB scope x = true) : GxR.GenS env scope x := by
  unfold genSB at h
  simp only [Bool.and_eq_true, decide_eq_true_eq, Bool.not_eq_true', List.all_eq_true] at h
  obtain ⟨⟨⟨⟨h1, h2⟩, h3⟩, h4⟩, h5⟩ := h
  exact ⟨h1, h2, fun y hy => (h3 y hy).1, h4, h5, fun y hy z => absurd z (h3 y hy).2⟩
theorem kind_of {scope : Scope} {ce : PySem.Env} {y : Str} (h : ce.scope = scope) (hb : scope.names.lookup y = some .globalImplicit) : ce.kindOf y = some .globalImplicit := by
  show ce.scope.names.lookup y = _
  rw [h]
  exact hb
end F
end

section
set_option Elab.async false
set_option linter.all false
set_option maxRecDepth 100000
set_option maxHeartbeats 2000000
/-! F layer, part T: lambdas that capture nothing, as values. -/
namespace F
open PySem PySem.Spec PyProof.Rows L2
/-- a lambda's words and its code object -/
structure LF where
  qual : Str
  params : Arguments
  body : Expr
  scope : Scope
  c : Addr
/-- the object at f is it -/
def FnL (f : Addr) (F : LF) : HO := .ext fun h => ∃ (pm ctv : Value), h.get? f = some (PySem.W.kla_obj "<lambda>" F.qual F.params F.body F.scope [] pm F.c ctv)
section
variable {X : Cx} {pins : List (Addr × Obj)} {σ : L2.St} {H : Hp} {s : Shared}
end
/-! ### a lambda called -/
section
variable {P : Program} {w : World} {A : Around} {s : Shared} {H : Hp}
end
/-! ### what it promises -/
structure LOk (P : Program) (w : World) (K : PySem.W.Frag) (mg : Str → Option Value) (base : Heap) (CX : CXT) (k : Nat) (F : LF) (n : Nat) (sp : Sp) : Prop where
  len : ∀ vs H Q E, sp vs H Q E → vs.length = n
  run : ∀ (A : Around) (outer : List PySem.Env) (s : Shared) (H : Hp) (f : Addr) (us : List Value) (vs : List V) (Q : VK) (E : XK), Room k A → A.guards = some [] → Env0 P w K mg base A outer s H → H f = some (FnL f F) → H F.c = some (LamX.CodeO F.c F.qual) →
    Vals vs us → sp vs H Q E → codeAny (model P w) A (.call (.ref f) ⟨us, []⟩) (CR CX outer P w H s Q E) s
section
variable {CX : CXT} {P : Program} {w : World} {K : PySem.W.Frag} {mg : Str → Option Value} {base : Heap} {N ps : List Str} {F : LF} {k j n : Nat} {sp : Sp}
theorem LOk.mono (o : LOk P w K mg base CX j F n sp) (h : j ≤ k) : LOk P w K mg base CX k F n sp := ⟨o.len, fun A outer s H f us vs Q E hr => o.run A outer s H f us vs Q E (hr.mono h)⟩
end
section
variable {X : Cx} {CX : CXT} {mk : Nat → Addr → LF} {i j k : Nat} {ar : Nat → Nat} {x : Str} {sp : Nat → Sp} {E : St → XK} {t : TA} {e : Expr} {es : List Expr} {p pos : Pos}
end
end F
end

section
set_option Elab.async false
set_option linter.all false
set_option autoImplicit false
set_option maxRecDepth 100000
set_option maxHeartbeats 2000000
/-! F layer, part V: dicts: stores, keys walked, list of the values. -/
namespace F
open PySem PySem.Spec PyProof.Rows L2
/-! ### d[k] = v, d a name's own dict -/
def putD (l : List (Ky × D)) (k : Ky) (d : D) : List (Ky × D) := if (l.any fun p => decide (p.1 = k)) = true then l.map (fun p => if p.1 = k then (p.1, d) else p) else l ++ [(k, d)]
def sPut (i : Nat) (k v : M R) : MS := fun e => sOf (v e) fun r e1 => sOf (leak r e1) fun d e2 => match slot e2 i with
  | some _ => sOf (k e2) fun q e3 => ofOS (peek q e3) fun j => ofOS (keyD j) fun kk => (match slot e3 i with
    | some (.fd l) => if l.length < lim then .nx (e3.set i (some (.fd (putD l kk d)))) else .bad
    | _ => .bad)
  | none => .bad
section
variable {c : Cn} {H : Hp}
theorem DatK.app : ∀ {l m : List (Ky × D)} {kvs ws : List (Key × V)}, DatK c H l kvs → DatK c H m ws → DatK c H (l ++ m) (kvs ++ ws)
  | [], m, kvs, ws, h, h2 => by
    have h : kvs = [] := h
    subst h
    exact h2
  | (k, d) :: l, m, kvs, ws, ⟨v, s, h1, h2, h3⟩, h4 => by
    subst h1
    exact ⟨v, s ++ ws, rfl, h2, DatK.app h3 h4⟩
theorem DatK.any {q : Ky} : ∀ {l : List (Ky × D)} {kvs : List (Key × V)}, DatK c H l kvs → (kvs.any fun kv => decide (kv.1 = kyK q)) = (l.any fun p => decide (p.1 = q))
  | [], kvs, h => by
    have h : kvs = [] := h
    subst h
    rfl
  | (k, d) :: l, kvs, ⟨v, s, h1, h2, h3⟩ => by
    subst h1
    simp only [List.any_cons, DatK.any h3]
    congr 1
    exact decide_eq_decide.mpr ⟨fun z => kyK_inj z, fun z => by rw [z]⟩
theorem DatK.mapP {q : Ky} {d : D} {v : V} (hd : Dat c H d v) : ∀ {l : List (Ky × D)} {kvs : List (Key × V)}, DatK c H l kvs → DatK c H (l.map (fun p => if p.1 = q then (p.1, d) else p)) (kvs.map (fun kv => if kv.1 = kyK q then (kv.1, v) else kv))
  | [], kvs, h => by
    have h : kvs = [] := h
    subst h
    rfl
  | (k, d') :: l, kvs, ⟨w, s, h1, h2, h3⟩ => by
    subst h1
    simp only [List.map_cons]
    by_cases z : k = q
    · rw [if_pos z, if_pos (by rw [z])]
      exact ⟨v, _, rfl, hd, DatK.mapP hd h3⟩
    · rw [if_neg z, if_neg fun y => z (kyK_inj y)]
      exact ⟨w, _, rfl, h2, DatK.mapP hd h3⟩
theorem DatK.put {q : Ky} {d : D} {v : V} (hd : Dat c H d v) {l : List (Ky × D)} {kvs : List (Key × V)} (h : DatK c H l kvs) : DatK c H (putD l q d) (putK kvs (kyK q) v) := by
  unfold putD putK
  rw [h.any]
  by_cases z : (l.any fun p => decide (p.1 = q)) = true
  · rw [if_pos z, if_pos z]
    exact DatK.mapP hd h
  · rw [if_neg z, if_neg z]
    exact h.app ⟨v, [], rfl, hd, rfl⟩
theorem DatK.len : ∀ {l : List (Ky × D)} {kvs : List (Key × V)}, DatK c H l kvs → kvs.length = l.length
  | [], kvs, h => by
    have h : kvs = [] := h
    subst h
    rfl
  | (k, d) :: l, kvs, ⟨v, s, h1, h2, h3⟩ => by
    subst h1
    simp [DatK.len h3]
theorem putD_len (l : List (Ky × D)) (q : Ky) (d : D) : (putD l q d).length ≤ l.length + 1 := by
  unfold putD
  split <;> simp
theorem DatK.vals : ∀ {l : List (Ky × D)} {kvs : List (Key × V)}, DatK c H l kvs → Dats c H (l.map (·.2)) (kvs.map (·.2))
  | [], kvs, h => by
    have h : kvs = [] := h
    subst h
    rfl
  | (k, d) :: l, kvs, ⟨v, s, h1, h2, h3⟩ => by
    subst h1
    exact ⟨v, _, rfl, h2, DatK.vals h3⟩
end
section
variable {X : Cx} {t : Tb} {W : WX} {P : Nat → Bool} {a b k v : Expr} {ma mb mk mv : M R} {pos apos cpos p1 p : Pos} {i : Nat}
/-- a name's own dict, at its address -/
theorem Rp.dctN {c : Cn} {H0 Fr H : Hp} {σ : St} {e : Env} {as : Nat → List Addr} (r : Rp c H0 Fr H σ e as) {i : Nat} {l : List (Ky × D)} (q : F.slot e i = some (.fd l)) {v : V} (hv : σ[i]? = some (some v)) :
    l.length ≤ lim ∧ ∃ p kvs, v = .ref p ∧ as i = [p] ∧ H p = some (.dK kvs) ∧ DatK c H0 l kvs ∧
      ∀ l' kvs', l'.length ≤ lim → DatK c H0 l' kvs' → Rp c H0 Fr (upd H p (.dK kvs')) σ (e.set i (some (.fd l'))) as := by
  obtain ⟨w, h1, hl, p, vs, h2, h3, h4, h5⟩ := r.own i _ q
  rw [hv] at h1
  cases h1
  refine ⟨hl, p, vs, h2, h3, h4, h5, fun l' vs' hl' hd => r.mut q h3 fun w hw _ => ?_⟩
  rw [hv] at hw
  cases hw
  exact ⟨hl', p, vs', h2, rfl, upd_same, hd⟩
theorem ss_put {x : Str} (hu : X.A.units + 1 < cLine) (ho : PE X (.Name x p1) (tVar i)) (hk : SE X t W k mk) (hv : SE X t W v mv) (hs : swapsWith v (some (.Subscript (.Name x p1) k apos)) pos.line X.env = pure false := by rfl) :
    SS X t W P (.Assign [.Subscript (.Name x p1) k apos] v pos) (sPut i mk mv) := by
  refine PS.imp (ps_dput hu ho hk hv hs) fun D σ H ⟨e, H0, Fr, as, rp, po⟩ => ?_
  refine ⟨e, H0, Fr, as, rp, PoS.of po fun r e1 y H1 H' s rr po => ?_⟩
  obtain ⟨d, e2, H2, as2, ql, s2, rp2, hd, po⟩ := PoS.leak po rr
  cases q0 : F.slot e2 i with
  | none =>
    rw [q0] at po
    exact po.elim
  | some o =>
    rw [q0] at po
    obtain ⟨w, hw, _⟩ := rp2.own i _ q0
    refine ⟨w, hw, e2, H2, Fr, as2, rp2, PoS.of po fun q e3 z H3 H'' s3 rr3 po => ?_⟩
    obtain ⟨j, q1, po⟩ := PoS.ofOS po
    obtain ⟨kk, q2, po⟩ := PoS.ofOS po
    obtain ⟨H4, as4, s4, rp4, hj⟩ := RpR.peek rr3 q1
    have ez := keyD_kV q2 hj
    subst ez
    split at po
    · rename_i l q
      by_cases hl : l.length < lim
      · rw [if_pos hl] at po
        obtain ⟨_, p, kvs, rfl, _, h3, h4, h5⟩ := rp4.dctN q hw
        refine ⟨p, _, rfl, DPut.k h3 (by rw [h4.len, sizeLine_lim]; exact hl), ?_⟩
        exact po σ H4 _ as4 s4 Prot.refl (h5 _ _ (by have := putD_len l kk d; omega) (DatK.put (Dat.mono (s3.trans s4) _ _ hd) h4))
      · rw [if_neg hl] at po
        exact po.elim
    · exact po.elim
/-! ### for k in d: the dict stays as it is from now on -/
theorem Rp.lockK {c : Cn} {H0 Fr H : Hp} {σ : St} {e : Env} {as : Nat → List Addr} (r : Rp c H0 Fr H σ e as) {i : Nat} {l : List (Ky × D)} {a : Addr} {kvs : List (Key × V)} {x : HO} (q : F.slot e i = some (.fd l)) (hv : σ[i]? = some (some (.ref a))) (ha : as i = [a]) (hl : l.length ≤ lim)
    (hd : DatK c H0 l kvs) (hx : ∃ o, x = .frz o (.dK kvs)) : ∃ as', Same H0 (upd H0 a x) ∧ Rp c (upd H0 a x) Fr (upd H a x) σ (e.set i (some (.sh (.dct l)))) as' := by
  have hm : a ∈ as i := by rw [ha]; simp
  obtain ⟨h0, hF⟩ := r.off i a hm
  have s1 : Same H0 (upd H0 a x) := fun b o e => by rw [upd_ne (ne_of_none e h0)]; exact e
  have r1 := r.drop i
  have out : ∀ j b, b ∈ setA as i [] j → b ≠ a := fun j b hb z => by
    obtain ⟨hj, hb⟩ := setA_mem hb
    exact hj (r.sep j i b hb (z ▸ hm))
  have tne : ∀ p ∈ c.tabs, p.1 ≠ a := fun p hp z => r.tab.na p hp i (z ▸ hm)
  have r2 : Rp c (upd H0 a x) Fr (upd H a x) σ (e.set i none) (setA as i []) := by
    refine ⟨r1.len, fun b o hb => ?_, fun b o hb => ?_, fun j o hj => ?_, fun j b hb => ?_, r1.sep, r1.nd, r1.emp, r1.tab.re s1 (fun p hp => upd_ne (tne p hp)) (fun p hp => by rw [upd_ne (tne p hp)]; exact r1.tab.n0 p hp) r1.tab.nF r1.tab.na⟩
    · by_cases z : b = a
      · subst z
        rw [upd_same] at hb ⊢
        exact hb
      · rw [upd_ne z] at hb ⊢
        exact r1.sub b o hb
    · have z : b ≠ a := fun z => by rw [z, hF] at hb; cases hb
      rw [upd_ne z, upd_ne z]
      exact r1.fr b o hb
    · obtain ⟨v, h1, h2⟩ := r1.own j o hj
      exact ⟨v, h1, OwnR.mono s1 o v _ (fun b hb => upd_ne (out j b hb)) h2⟩
    · rw [upd_ne (out j b hb)]
      exact r1.off j b hb
  have hdd : Dat c (upd H0 a x) (.dct l) (.ref a) := by
    obtain ⟨o, rfl⟩ := hx
    exact ⟨hl, a, kvs, rfl, .inr ⟨o, upd_same⟩, DatK.mono s1 _ _ hd⟩
  have r3 := r2.setSh (i := i) hdd
  have hs : σ.set i (some (.ref a)) = σ := by
    apply List.ext_getElem?
    intro j
    by_cases z : i = j
    · subst z
      rw [List.getElem?_set_self (List.getElem?_eq_some_iff.mp hv).1, hv]
    · rw [List.getElem?_set_ne z]
  rw [hs, List.set_set] at r3
  exact ⟨_, s1, r3⟩
theorem pi_lockp {tg e : Expr} {u : TI} (h : PI X tg e u) : PI X tg e (fun σ H R => ∃ d w, H d = some w ∧ Mut (some w) ∧ ∀ od, u σ (upd H d (.frz od w)) R) := by
  refine ⟨fun pins s σ H R I ⟨d, w, hd, mu, hw⟩ => ?_⟩
  obtain ⟨od, I1⟩ := I.lock hd mu
  exact h.run pins s σ _ R I1 (hw od)
def keysD : Ky × D → D
  | (.i n, _) => .int n
  | (.s x, _) => .str x
def kyOk (p : Ky × D) : Bool := match p.1 with | .i _ => true | .s x => decide (x.length ≤ lim)
def mItK (i : Nat) : M (List D) := fun e => match F.slot e i with
  | some (.fd l) => if (l.all kyOk) = true then .ok (l.map keysD) (e.set i (some (.sh (.dct l)))) else .bad
  | _ => .bad
theorem walk_itk {d : Addr} {o : Obj} {kvs : List (Key × V)} : Walk (Itk d o kvs) kvs.length (fun H => H d = some (.frz o (.dK kvs))) (fun i H x H' => H' = H ∧ ∃ k v, kvs[i]? = some (k, v) ∧ x = kV k) :=
  ⟨fun i H hi h => ⟨h, hi⟩, fun H h => ⟨h, Nat.le_refl _⟩, fun i H x H' _ _ y => y⟩
theorem DatK.getK {c : Cn} {H : Hp} : ∀ {l : List (Ky × D)} {kvs : List (Key × V)} {i : Nat} {k : Key} {v : V}, DatK c H l kvs → kvs[i]? = some (k, v) → ∃ p, l[i]? = some p ∧ k = kyK p.1
  | [], kvs, i, k, v, h, e => by
    have h : kvs = [] := h
    subst h
    cases e
  | (q, d) :: l, kvs, i, k, v, ⟨w, s, h1, h2, h3⟩, e => by
    subst h1
    cases i with
    | zero =>
      cases e
      exact ⟨_, rfl, rfl⟩
    | succ i => exact DatK.getK (i := i) h3 (by simpa using e)
theorem si_keys {tg : Expr} {x : Str} (ho : PE X (.Name x p1) (tVar i)) : SI X t W tg (.Name x p1) (mItK i) := by
  refine PI.imp (pi_lockp (pi_keys ho)) fun σ H Rr ⟨e, H0, Fr, as, rp, po⟩ => ?_
  have po : Po t (cn X t) W Fr σ H0 (rrI (cn X t) Fr σ) Rr (match F.slot e i with
    | some (.fd l) => if (l.all kyOk) = true then .ok (l.map keysD) (e.set i (some (.sh (.dct l)))) else .bad
    | _ => .bad) := po
  cases q : F.slot e i with
  | none => rw [q] at po; exact po.elim
  | some o =>
    rw [q] at po
    cases o with
    | fd l =>
      by_cases hk : (l.all kyOk) = true
      case neg =>
        have po : Po t (cn X t) W Fr σ H0 (rrI (cn X t) Fr σ) Rr (if (l.all kyOk) = true then .ok (l.map keysD) (e.set i (some (.sh (.dct l)))) else .bad) := po
        rw [if_neg hk] at po
        exact po.elim
      have po : Po t (cn X t) W Fr σ H0 (rrI (cn X t) Fr σ) Rr (if (l.all kyOk) = true then .ok (l.map keysD) (e.set i (some (.sh (.dct l)))) else .bad) := po
      rw [if_pos hk] at po
      obtain ⟨w, hw, _⟩ := rp.own i _ q
      obtain ⟨hl, a, kvs, rfl, ha, h3, h4, _⟩ := rp.dctN q hw
      refine ⟨a, .dK kvs, h3, trivial, fun od => ?_⟩
      refine ⟨.ref a, hw, a, od, rfl, .inl ⟨kvs, upd_same, ?_⟩⟩
      obtain ⟨as', s1, rp2⟩ := rp.lockK q hw ha hl h4 ⟨od, rfl⟩
      refine po _ _ _ s1 ⟨⟨as', rp2⟩, ?_⟩
      refine wk_mk walk_itk (by rw [List.length_map, h4.len]) (fun H2 H' s2 s3 => s3 _ _ (s2 _ _ upd_same)) ?_
      rintro j H2 H' x H'' hj s2 s3 ⟨rfl, k, v, h5, rfl⟩
      obtain ⟨⟨p, d⟩, h6, rfl⟩ := h4.getK h5
      refine ⟨keysD (p, d), by rw [List.getElem?_map, h6]; rfl, .inl ⟨rfl, ?_⟩⟩
      cases p with
      | i n => exact rfl
      | s z =>
        have := List.all_eq_true.mp hk _ (List.mem_of_getElem? h6)
        exact ⟨rfl, of_decide_eq_true this⟩
    | _ => exact po.elim
/-! ### list(d.values()) -/
def tLstVals (td : TE) : TE := fun σ H Q => td σ H fun x H1 => ∃ d kvs, x = .ref d ∧ Rd H1 d (.dK kvs) ∧ ∀ q, H1 q = none → Q (.ref q) (upd H1 q (.lst (kvs.map (·.2))))
theorem pe_listVals {e : Expr} {td : TE} (hc : X.calm = true) (hg : Gl X "list") (hm : X.mg "list" = none) (he : PE X e td) (hbase : attributeBase e "values" X.env (eval e X.env) = eval e X.env := by rfl) (hline : (apos.endLine == cpos.line) = true := by rfl)
    (na : starEach [.Call (.Attribute e "values" apos) [] [] cpos] X.env = (false, eval (.Call (.Attribute e "values" apos) [] [] cpos) X.env) :: starEach [] X.env := by rfl) : PE X (.Call (.Name "list" p) [.Call (.Attribute e "values" apos) [] [] cpos] [] pos) (tLstVals td) := by
  refine ⟨fun pins s σ H Q I h => ?_⟩
  refine Call_ (ld_blt I hg hm boot_list (PyProof.Rows.callWith_type1 (args_cons ?_ na) na))
  refine wpAny_Call_method (T := "dict") (id := "dict.values") hbase rfl hline F.plainAttrs_dict F.slot_dict_values F.type_dict_values (thn (he.run pins s σ H _ I h) fun u s1 ⟨x, H1, I1, rx, d, kvs, ex, hd, q⟩ => ?_)
  subst ex
  obtain rfl : u = Value.ref d := rx
  obtain ⟨z, hs, vs, kv, hmo⟩ := (show ObjOk X.prog X.w H1 s1.heap d (.dK kvs) from hd.ok I1.hok)
  obtain ⟨ep, hat⟩ := hmo.dictAt
  have hl : kvs.length = vs.length := Paired.length kv
  refine ⟨hmo.typeIs, hmo.mapOf.noDict, ?_⟩
  have I2 : Inv X pins σ H1 { s1 with heap := s1.heap.push { cls := .type "dict_values", data := .fields #[.ref d] } } := I1.kept (t' := s1.toks) fun b ob q => Heap.get?_push_of_some _ q
  show wpAny _ _ (callWith cpos (.builtin "dict.values") [.ref d] [] []) _ X.xe s1
  refine method_meetsIn F.slot_dict_values F.entry_dict_values rfl (PySem.evalArgs_none ⟨rfl, hmo.typeIs, F.args_dict_values_1 _, _, meets_dict_values (mixKind X.prog X.w) d hs, ⟨vs, hmo⟩, ?_⟩)
  refine args_nil ?_
  refine PySem.W.kdl_call (PySem.W.kdl_values (knd := mixKind X.prog X.w) (kvs := vs) (ep := ep) (d := d)) (I2.ok.hd hc) ⟨⟨_, Heap.get?_push_size _ rfl, rfl, rfl⟩, hat.push _⟩ (by rw [← hl]; exact z) fun h' tk acc' c' hkeep hS hacc => ?_
  have hf : H1 (s1.heap.push { cls := .type "dict_values", data := .fields #[.ref d] }).objs.size = none := I2.hok.fresh (Nat.le_refl _)
  refine ⟨.ref _, upd H1 _ (.lst (kvs.map (·.2))), I2.laid hkeep (Nat.le_refl _) (show ObjOk X.prog X.w _ _ _ (.lst (kvs.map (·.2))) from ⟨?_, acc'.toList, c', ?_, ?_⟩), rfl, q _ hf⟩
  · rw [List.length_map]; exact z
  · have e1 : acc'.toList = vs.map (·.2) := PySem.W.kdl_vals_eq _ (by rw [Array.length_toList]; exact hacc.1) fun j v hv => hacc.2 j v (by rw [← Array.getElem?_toList]; exact hv)
    rw [e1]
    refine vals_of_at (by rw [List.length_map, List.length_map, hl]) fun j x u h1 h2 => ?_
    rw [List.getElem?_map] at h1 h2
    cases g1 : kvs[j]? with
    | none => rw [g1] at h1; cases h1
    | some p =>
      rw [g1] at h1
      cases h1
      obtain ⟨k, y⟩ := p
      obtain ⟨u', hu', ru⟩ := kv_get kv g1
      rw [hu'] at h2
      cases h2
      exact ru
  · rw [Array.toArray_toList]; exact hS
def valsL : D → Option (List D)
  | .dct l => some (l.map (·.2))
  | _ => none
theorem se_listVals {e : Expr} (hc : X.calm = true) (hg : Gl X "list") (hm : X.mg "list" = none) (he : SE X t W e ma) (hbase : attributeBase e "values" X.env (eval e X.env) = eval e X.env := by rfl) (hline : (apos.endLine == cpos.line) = true := by rfl)
    (na : starEach [.Call (.Attribute e "values" apos) [] [] cpos] X.env = (false, eval (.Call (.Attribute e "values" apos) [] [] cpos) X.env) :: starEach [] X.env := by rfl) : SE X t W (.Call (.Name "list" p) [.Call (.Attribute e "values" apos) [] [] cpos] [] pos) (mOl1 valsL ma) := by
  refine PE.imp (pe_listVals hc hg hm he hbase hline na) fun σ H Q q => ?_
  obtain ⟨e, H0, Fr, as, rp, po⟩ := q
  refine ⟨e, H0, Fr, as, rp, po.bind fun ra e1 v H1 H' s rr po => ?_⟩
  obtain ⟨dx, q1, po⟩ := po.ofO
  obtain ⟨l, q2, po⟩ := po.ofO
  obtain ⟨H2, as2, s2, rp2, hd⟩ := RpR.peek rr q1
  match dx, q2 with
  | .dct m, q2 =>
    cases q2
    obtain ⟨hl, a, kvs, rfl, h2, h3⟩ := hd
    exact ⟨a, kvs, rfl, h2, fun q hq => (po.mono s2).newL rp2 q _ hq (by rw [List.length_map]; exact hl) h3.vals⟩
end
end F
end

section
set_option linter.all false
set_option autoImplicit false
set_option maxRecDepth 100000
/-! running plain defs: loops, comprehensions -/
namespace F
theorem for_cons {t : Tg} {body : MS} {d : F.D} {ds : List F.D} {e e1 e2 : Env} (h1 : t.put d e = some e1) (h2 : body e1 = .nx e2) : forL t body (d :: ds) e = forL t body ds e2 := by simp only [forL, h1, h2]
theorem for_consR {t : Tg} {body : MS} {d : F.D} {ds : List F.D} {e e1 e2 : Env} {o : O} (h1 : t.put d e = some e1) (h2 : body e1 = .rt o e2) : forL t body (d :: ds) e = .rt o e2 := by simp only [forL, h1, h2]
/-- a loop that turns s -/
theorem for_fold {α σ : Type} {enc : α → F.D} {g : σ → Env} {step : σ → α → σ} {I : σ → Prop} {t : Tg} {body : MS} : ∀ {as : List α} {s : σ}, (∀ s, ∀ a ∈ as, I s → (∃ e1, t.put (enc a) (g s) = some e1 ∧ body e1 = .nx (g (step s a))) ∧ I (step s a)) → I s →
    forL t body (as.map enc) (g s) = .nx (g (as.foldl step s)) ∧ I (as.foldl step s)
  | [], s, _, hI => ⟨rfl, hI⟩
  | a :: as, s, h, hI => by
    obtain ⟨⟨e1, h1, h2⟩, h3⟩ := h s a (List.mem_cons_self ..) hI
    rw [List.map_cons, for_cons h1 h2]
    exact for_fold (fun s b hb => h s b (List.mem_cons_of_mem _ hb)) h3
/-- a loop that keeps an invariant of the names -/
theorem for_inv {I : Env → Prop} {t : Tg} {body : MS} : ∀ {ds : List F.D} {e : Env}, (∀ d ∈ ds, ∀ e, I e → ∃ e1 e2, t.put d e = some e1 ∧ body e1 = .nx e2 ∧ I e2) → I e → ∃ e', forL t body ds e = .nx e' ∧ I e'
  | [], e, _, h => ⟨e, rfl, h⟩
  | d :: ds, e, hs, h => by
    obtain ⟨e1, e2, h1, h2, h3⟩ := hs d (List.mem_cons_self ..) e h
    rw [for_cons h1 h2]
    exact for_inv (fun d hd => hs d (List.mem_cons_of_mem _ hd)) h3
/-- one turn of a comprehension -/
def lcOne (own : List Nat) (t : Tg) (c : M Bool) (v : M F.R) (d : F.D) (e : Env) : Option (Option F.D × Env) := match t.put d e with
  | some e1 => (match c e1 with
    | .ok true e2 => (match v e2 with
      | .ok r e3 => (match leak r e3 with
        | .ok x e4 => some (some x, wipeE e4 own)
        | _ => none)
      | _ => none)
    | .ok false e2 => some (none, wipeE e2 own)
    | _ => none)
  | none => none
theorem lc_eq {own : List Nat} {t : Tg} {c : M Bool} {v : M F.R} {d : F.D} {ds acc : List F.D} {e e' : Env} {o : Option F.D} (h : lcOne own t c v d e = some (o, e')) : lcL own t c v (d :: ds) acc e = lcL own t c v ds (acc ++ o.toList) e' := by
  unfold lcOne at h
  conv => lhs; unfold lcL
  cases h1 : t.put d e with
  | none => rw [h1] at h; cases h
  | some e1 =>
    rw [h1] at h
    dsimp only at h ⊢
    cases h2 : c e1 with
    | ok b e2 =>
      rw [h2] at h
      cases b with
      | true =>
        dsimp only at h ⊢
        cases h3 : v e2 with
        | ok r e3 =>
          rw [h3] at h
          dsimp only at h ⊢
          cases h4 : leak r e3 with
          | ok x e4 =>
            rw [h4] at h
            cases h
            rfl
          | ex => rw [h4] at h; cases h
          | bad => rw [h4] at h; cases h
        | ex => rw [h3] at h; cases h
        | bad => rw [h3] at h; cases h
      | false =>
        cases h
        show lcL own t c v ds acc _ = _
        rw [show (none : Option F.D).toList = [] from rfl, List.append_nil]
    | ex => rw [h2] at h; cases h
    | bad => rw [h2] at h; cases h
theorem lc_fm {α : Type} {enc : α → F.D} {own : List Nat} {t : Tg} {c : M Bool} {v : M F.R} {e : Env} {f : α → Option F.D} : ∀ {as : List α} {acc : List F.D}, (∀ a ∈ as, lcOne own t c v (enc a) e = some (f a, e)) → lcL own t c v (as.map enc) acc e = .ok (acc ++ as.filterMap f) e
  | [], acc, _ => by simp [lcL]
  | a :: as, acc, h => by
    rw [List.map_cons, lc_eq (h a (List.mem_cons_self ..)), lc_fm fun b hb => h b (List.mem_cons_of_mem _ hb), List.filterMap_cons]
    cases f a <;> simp
/-- .. every item kept -/
theorem lc_map {α : Type} {enc : α → F.D} {own : List Nat} {t : Tg} {c : M Bool} {v : M F.R} {e : Env} {f : α → F.D} {as : List α} {acc : List F.D} (h : ∀ a ∈ as, lcOne own t c v (enc a) e = some (some (f a), e)) : lcL own t c v (as.map enc) acc e = .ok (acc ++ as.map f) e := by
  rw [lc_fm (f := fun a => some (f a)) h]
  simp
/-! items -/
theorem rngF_map (lo : Int) : ∀ n, rngF lo n = (List.range n).map fun i => F.D.int (lo + (i : Nat))
  | 0 => rfl
  | n + 1 => by
    rw [List.range_succ_eq_map]
    simp only [rngF, List.map_cons, List.map_map, rngF_map (lo + 1) n]
    congr 1
    · simp
    · apply List.map_congr_left
      intro i _
      simp only [Function.comp_apply]
      congr 1
      omega
theorem pls_all {l : List F.D} (h : ∀ d ∈ l, d.pl = true) : pls l = true := by
  induction l with
  | nil => rfl
  | cons a l ih =>
    show (a.pl && pls l) = true
    rw [h a (List.mem_cons_self ..), ih fun d hd => h d (List.mem_cons_of_mem _ hd)]
    rfl
theorem dps_all {l : List F.D} {n : Nat} (h : ∀ d ∈ l, d.dp ≤ n) : dps l ≤ n := by
  induction l with
  | nil => exact Nat.zero_le _
  | cons a l ih => exact Nat.max_le.mpr ⟨h a (List.mem_cons_self ..), ih fun d hd => h d (List.mem_cons_of_mem _ hd)⟩
/-- a list beside the empty one -/
theorem cmp_nil {l : List F.D} (h : pls l = true) : cmpOk (.lst l) (.lst []) = true := by
  unfold cmpOk
  rw [show (F.D.lst l).pl = pls l from rfl, h, show decide ((F.D.lst []).dp ≤ 50) = true from rfl, Bool.or_true]
  rfl
theorem eq_nil {l : List F.D} (h : pls l = true) : eqD (.lst l) (.lst []) = some (.bl l.isEmpty) := by
  unfold eqD
  rw [cmp_nil h]
  cases l <;> rfl
mutual
theorem eqB_refl : ∀ d : F.D, d.pl = true → eqB d d = true
  | .non, _ => rfl
  | .bl b, _ => by simp [eqB]
  | .int i, _ => by simp [eqB]
  | .str x, _ => by simp [eqB]
  | .tup l, h => eqBs_refl l h
  | .lst l, h => eqBs_refl l h
  | .dct _, h => by cases h
  | .obj _ _, h => by cases h
  | .ex _ _, h => by cases h
theorem eqBs_refl : ∀ l : List F.D, pls l = true → eqBs l l = true
  | [], _ => rfl
  | d :: l, h => by
    have h : (d.pl && pls l) = true := h
    rw [Bool.and_eq_true] at h
    show (eqB d d && eqBs l l) = true
    rw [eqB_refl d h.1, eqBs_refl l h.2]
    rfl
end
theorem getI_nat {α : Type} {l : List α} {r : Int} (h0 : 0 ≤ r) (h1 : r < l.length) : ∃ c, c ∈ l ∧ getI l r = some c := by
  have hr : r.toNat < l.length := by omega
  refine ⟨l[r.toNat], List.getElem_mem hr, ?_⟩
  unfold getI ixI
  rw [if_pos h0, if_pos h1]
  show l[r.toNat]? = _
  rw [List.getElem?_eq_getElem hr]
theorem getI_last {α : Type} (l : List α) (d : α) : getI (l ++ [d]) (-1) = some d := by
  unfold getI ixI
  rw [if_neg (by decide), if_pos (by simp; omega)]
  show (l ++ [d])[(-1 + ((l ++ [d]).length : Int)).toNat]? = _
  have : (-1 + ((l ++ [d]).length : Int)).toNat = l.length := by simp; omega
  rw [this]
  simp
end F
end

section
set_option linter.all false
set_option autoImplicit false
set_option maxRecDepth 100000
/-! find, rfind of one sign -/
namespace F
open PySem PySem.StrLaws Builtin Builtin.Str
def fstIx (k : Nat) : List Nat → Option Nat
  | [] => none
  | a :: x => if a = k then some 0 else (fstIx k x).map (· + 1)
def lstIx (k : Nat) : List Nat → Option Nat
  | [] => none
  | a :: x => match lstIx k x with
    | some j => some (j + 1)
    | none => if a = k then some 0 else none
theorem occ_stay (s sub : Str) (hi : Nat) : ∀ (l : List Nat) (st : Array Nat × Nat), st.fst.size = 1 → (forIn l st (occBody s sub hi 1)).run.fst = st.fst
  | [], st, h => rfl
  | a :: l, st, h => by
    rw [List.forIn_cons]
    unfold occBody
    rw [if_neg fun z => by have := z.1.1.1; omega]
    exact occ_stay s sub hi l _ h
theorem occ_find (s sub : Str) (hi : Nat) : ∀ (l : List Nat) (free : Nat), (∀ i ∈ l, free ≤ i) →
    (forIn l ((#[] : Array Nat), free) (occBody s sub hi 1)).run.fst.toList = (l.find? fun i => decide (i + sub.length ≤ hi ∧ subAt s sub i = true)).toList
  | [], free, _ => by simp
  | a :: l, free, hf => by
    rw [List.forIn_cons, List.find?_cons]
    unfold occBody
    have ha : free ≤ a := hf a (List.mem_cons_self ..)
    by_cases hc : a + sub.length ≤ hi ∧ subAt s sub a = true
    · have c1 : (((#[] : Array Nat), free).fst.size < 1 ∧ ((#[] : Array Nat), free).snd ≤ a) ∧ a + sub.length ≤ hi := ⟨⟨by simp, ha⟩, hc.1⟩
      rw [if_pos ⟨c1, hc.2⟩, decide_eq_true hc]
      have := occ_stay s sub hi l ((#[] : Array Nat).push a, a + sub.length) (by simp)
      simp only
      show (forIn l ((#[] : Array Nat).push a, a + sub.length) (occBody s sub hi 1)).run.fst.toList = _
      rw [this]
      rfl
    · have c2 : ¬ (((((#[] : Array Nat), free).fst.size < 1 ∧ ((#[] : Array Nat), free).snd ≤ a) ∧ a + sub.length ≤ hi) ∧ subAt s sub a = true) := fun h => hc ⟨h.1.2, h.2⟩
      rw [if_neg c2, decide_eq_false hc]
      exact occ_find s sub hi l free fun i hi' => hf i (List.mem_cons_of_mem _ hi')
theorem find_range (k : Nat) : ∀ (y : List Nat) (s : Nat), ((List.range' s (y.length + 1)).find? fun i => decide (y[i - s]? = some k)) = (fstIx k y).map (· + s)
  | [], s => by simp [fstIx]
  | a :: y, s => by
    rw [List.length_cons, List.range'_succ, List.find?_cons]
    unfold fstIx
    by_cases h : a = k
    · subst h
      simp
    · rw [if_neg h]
      have : decide ((a :: y)[s - s]? = some k) = false := by simp [h]
      rw [this]
      have ih := find_range k y (s + 1)
      have e : (List.range' (s + 1) (y.length + 1)).find? (fun i => decide ((a :: y)[i - s]? = some k)) = (List.range' (s + 1) (y.length + 1)).find? (fun i => decide (y[i - (s + 1)]? = some k)) := by
        have key : ∀ l : List Nat, (∀ i ∈ l, s + 1 ≤ i) → l.find? (fun i => decide ((a :: y)[i - s]? = some k)) = l.find? (fun i => decide (y[i - (s + 1)]? = some k)) := by
          intro l hl
          induction l with
          | nil => rfl
          | cons b l ih =>
            rw [List.find?_cons, List.find?_cons, ih fun i hi => hl i (List.mem_cons_of_mem _ hi)]
            have hb := hl b (List.mem_cons_self ..)
            have : b - s = (b - (s + 1)) + 1 := by omega
            rw [this, List.getElem?_cons_succ]
        exact key _ fun i hi => (List.mem_range'_1.mp hi).1
      simp only
      rw [e, ih, Option.map_map]
      congr 1
      funext j
      simp only [Function.comp_apply]
      omega
theorem occ_sign (x : List Nat) (k : Nat) : occurrences (sS x) (sS [k]) 0 (sS x).length 1 = (fstIx k x).toList := by
  rw [occ_eq, occ_find _ _ _ _ 0 (fun _ _ => Nat.zero_le _)]
  have e : (fun i => decide (i + (sS [k]).length ≤ (sS x).length ∧ subAt (sS x) (sS [k]) i = true)) = fun i => decide (x[i - 0]? = some k) := by
    funext i
    have := subAt_one (sS x) k i
    rw [sS_tl] at this
    exact decide_eq_decide.mpr this
  rw [e, sS_len, Nat.sub_zero, find_range k x 0]
  congr 1
  cases fstIx k x <;> rfl
theorem find_sign (x : List Nat) (k : Nat) : findD x (.str [k]) = some (.int (match fstIx k x with | some i => (i : Int) | none => -1)) := by
  show some (F.D.int (Txt.find (sS x) (sS [k]))) = _
  unfold Txt.find
  rw [occ_sign]
  cases fstIx k x <;> rfl
theorem lst_range (k : Nat) : ∀ (y : List Nat) (s : Nat) (acc : Option Nat), (List.range' s (y.length + 1)).foldl (fun acc i => if y[i - s]? = some k then some i else acc) acc = match lstIx k y with | some j => some (j + s) | none => acc
  | [], s, acc => by simp [lstIx]
  | a :: y, s, acc => by
    rw [List.length_cons, List.range'_succ, List.foldl_cons]
    have key : ∀ (l : List Nat) (acc : Option Nat), (∀ i ∈ l, s + 1 ≤ i) → l.foldl (fun acc i => if (a :: y)[i - s]? = some k then some i else acc) acc = l.foldl (fun acc i => if y[i - (s + 1)]? = some k then some i else acc) acc := by
      intro l
      induction l with
      | nil => intro acc _; rfl
      | cons b l ih =>
        intro acc hl
        have hb := hl b (List.mem_cons_self ..)
        have : b - s = (b - (s + 1)) + 1 := by omega
        rw [List.foldl_cons, List.foldl_cons, this, List.getElem?_cons_succ, ih _ fun i hi => hl i (List.mem_cons_of_mem _ hi)]
    rw [key _ _ fun i hi => (List.mem_range'_1.mp hi).1, lst_range k y (s + 1)]
    conv => rhs; rw [lstIx]
    cases lstIx k y with
    | some j => exact congrArg some (by omega : j + (s + 1) = j + 1 + s)
    | none =>
      by_cases h : a = k
      · simp [h]
      · simp [h]
def lstBody (x y : Str) (hi : Nat) (i : Nat) (r : Option Nat) : Id (ForInStep (Option Nat)) := if i + y.length ≤ hi ∧ subAt x y i = true then pure (ForInStep.yield (some i)) else pure (ForInStep.yield r)
theorem last_eq (x y : Str) (hi : Nat) : lastOccurrence x y 0 hi = (forIn (List.range' 0 (hi + 1)) (none : Option Nat) (lstBody x y hi)).run := by
  unfold lastOccurrence lstBody
  simp
theorem last_sign (x : List Nat) (k : Nat) : lastOccurrence (sS x) (sS [k]) 0 (sS x).length = lstIx k x := by
  have e : ∀ (l : List Nat) (acc : Option Nat), (forIn l acc (lstBody (sS x) (sS [k]) (sS x).length)).run = l.foldl (fun acc i => if x[i - 0]? = some k then some i else acc) acc := by
    intro l
    induction l with
    | nil => intro acc; rfl
    | cons a l ih =>
      intro acc
      rw [List.forIn_cons, List.foldl_cons]
      have h : (a + (sS [k]).length ≤ (sS x).length ∧ subAt (sS x) (sS [k]) a = true) ↔ x[a]? = some k := by
        have := subAt_one (sS x) k a
        rw [sS_tl] at this
        exact this
      unfold lstBody
      by_cases hc : x[a]? = some k
      · rw [if_pos (h.mpr hc), if_pos (by simpa using hc)]
        exact ih _
      · rw [if_neg fun z => hc (h.mp z), if_neg (by simpa using hc)]
        exact ih _
  rw [last_eq, e, sS_len, lst_range k x 0 none]
  cases lstIx k x <;> rfl
theorem rfind_sign (x : List Nat) (k : Nat) : rfindD x (.str [k]) = some (.int (match lstIx k x with | some i => (i : Int) | none => -1)) := by
  show some (F.D.int (Txt.rfind (sS x) (sS [k]))) = _
  unfold Txt.rfind
  rw [last_sign]
  cases lstIx k x <;> rfl
end F
end

section
set_option Elab.async false
set_option linter.all false
set_option autoImplicit false
set_option maxRecDepth 100000
set_option maxHeartbeats 0

namespace F
open PySem PySem.Spec PyProof.Rows L2
def top (i : Nat) : Stmt := PySem.Challenge.pw_holedlines_k44_least_texts_of_kinds.main.body.getD i (.Pass ⟨0, 0, 0, 0⟩)
def c_BEGINS : List Nat := [62, 60, 94]
def c_DIGIT : List Nat := [100, 105, 103, 105, 116]
def c_END : List Nat := [61]
def c_KNOWN : List Nat := [97, 98, 99, 100, 101, 102, 103, 104, 105, 106, 107, 108, 109, 110, 111, 112, 113, 114, 115, 116, 117, 118, 119, 120, 121, 122, 43, 65, 66, 67, 68, 69, 70, 71, 72, 73, 74, 75, 76, 77, 42, 78, 79, 80, 81, 82, 83, 84, 85, 86, 87, 88, 89, 90, 48, 49, 50, 51, 52, 53, 54, 55, 56, 57, 44, 46, 58, 36, 35, 32, 33, 63, 45, 40, 41, 91, 93, 62, 60, 94, 61]
def c_PLAIN_CHARACTERS : List Nat := [32, 33, 35, 36, 40, 41, 42, 43, 44, 45, 46, 48, 49, 50, 51, 52, 53, 54, 55, 56, 57, 58, 63, 65, 66, 67, 68, 69, 70, 71, 72, 73, 74, 75, 76, 77, 78, 79, 80, 81, 82, 83, 84, 85, 86, 87, 88, 89, 90, 91, 93, 97, 98, 99, 100, 101, 102, 103, 104, 105, 106, 107, 108, 109, 110, 111, 112, 113, 114, 115, 116, 117, 118, 119, 120, 121, 122]
def c_STRONG : List Nat := [76, 82, 65]
def d__law_bag : He.DefD := ⟨("_law_bag", none), "_law_bag", "_law_bag", defArgs (top 42), defBody (top 42), defScope (top 42), [], []⟩
def d__law_take : He.DefD := ⟨("_law_take", none), "_law_take", "_law_take", defArgs (top 43), defBody (top 43), defScope (top 43), [], []⟩
def d__law_of : He.DefD := ⟨("_law_of", none), "_law_of", "_law_of", defArgs (top 44), defBody (top 44), defScope (top 44), [], []⟩
def d__law_character : He.DefD := ⟨("_law_character", none), "_law_character", "_law_character", defArgs (top 45), defBody (top 45), defScope (top 45), [], []⟩
def d__law_text : He.DefD := ⟨("_law_text", none), "_law_text", "_law_text", defArgs (top 46), defBody (top 46), defScope (top 46), [], []⟩
def d_first_unknown : He.DefD := ⟨("first_unknown", none), "first_unknown", "first_unknown", defArgs (top 11), defBody (top 11), defScope (top 11), [], []⟩
def d_overfull : He.DefD := ⟨("overfull", none), "overfull", "overfull", defArgs (top 10), defBody (top 10), defScope (top 10), [], []⟩
def d_first_fault : He.DefD := ⟨("first_fault", none), "first_fault", "first_fault", defArgs (top 12), defBody (top 12), defScope (top 12), [], []⟩
def d_need_text : He.DefD := ⟨("need_text", none), "need_text", "need_text", defArgs (top 13), defBody (top 13), defScope (top 13), [.str (sS c_KNOWN)], []⟩
def d_need_plain : He.DefD := ⟨("need_plain", none), "need_plain", "need_plain", defArgs (top 27), defBody (top 27), defScope (top 27), [], []⟩
def d_head_of : He.DefD := ⟨("head_of", none), "head_of", "head_of", defArgs (top 35), defBody (top 35), defScope (top 35), [], []⟩
def d_next_state : He.DefD := ⟨("next_state", none), "next_state", "next_state", defArgs (top 23), defBody (top 23), defScope (top 23), [], []⟩
def d_read_in : He.DefD := ⟨("read_in", none), "read_in", "read_in", defArgs (top 30), defBody (top 30), defScope (top 30), [], []⟩
def d_least_weak : He.DefD := ⟨("least_weak", none), "least_weak", "least_weak", defArgs (top 36), defBody (top 36), defScope (top 36), [], []⟩
def d_least_of : He.DefD := ⟨("least_of", none), "least_of", "least_of", defArgs (top 37), defBody (top 37), defScope (top 37), [], []⟩
def d_words_of : He.DefD := ⟨("words_of", none), "words_of", "words_of", defArgs (top 29), defBody (top 29), defScope (top 29), [], []⟩
def d_least : He.DefD := ⟨("least", none), "least", "least", defArgs (top 39), defBody (top 39), defScope (top 39), [], []⟩
def d__law_longer : He.DefD := ⟨("_law_longer", none), "_law_longer", "_law_longer", defArgs (top 47), defBody (top 47), defScope (top 47), [], []⟩
def d__law_lesser : He.DefD := ⟨("_law_lesser", none), "_law_lesser", "_law_lesser", defArgs (top 48), defBody (top 48), defScope (top 48), [], []⟩
def d_lead_of : He.DefD := ⟨("lead_of", none), "lead_of", "lead_of", defArgs (top 34), defBody (top 34), defScope (top 34), [], []⟩
def d_direction_of : He.DefD := ⟨("direction_of", none), "direction_of", "direction_of", defArgs (top 24), defBody (top 24), defScope (top 24), [], []⟩
def d_next_direction : He.DefD := ⟨("next_direction", none), "next_direction", "next_direction", defArgs (top 25), defBody (top 25), defScope (top 25), [], []⟩
def d_fate : He.DefD := ⟨("fate", none), "fate", "fate", defArgs (top 26), defBody (top 26), defScope (top 26), [], []⟩
def d_fate_within : He.DefD := ⟨("fate_within", none), "fate_within", "fate_within", defArgs (top 31), defBody (top 31), defScope (top 31), [], []⟩
def d_entry_of : He.DefD := ⟨("entry_of", none), "entry_of", "entry_of", defArgs (top 32), defBody (top 32), defScope (top 32), [], []⟩
def d_states : He.DefD := ⟨("states", none), "states", "states", defArgs (top 22), defBody (top 22), defScope (top 22), [], []⟩
def d_effect_of : He.DefD := ⟨("effect_of", none), "effect_of", "effect_of", defArgs (top 33), defBody (top 33), defScope (top 33), [], []⟩
def d_is_one_kind : He.DefD := ⟨("is_one_kind", none), "is_one_kind", "is_one_kind", defArgs (top 38), defBody (top 38), defScope (top 38), [], []⟩
def d_need_factor : He.DefD := ⟨("need_factor", none), "need_factor", "need_factor", defArgs (top 28), defBody (top 28), defScope (top 28), [], []⟩
def d_product : He.DefD := ⟨("product", none), "product", "product", defArgs (top 40), defBody (top 40), defScope (top 40), [], []⟩
def d_law : He.DefD := ⟨("law", none), "law", "law", defArgs (top 49), defBody (top 49), defScope (top 49), [], []⟩
def fn : List He.DefD := [d__law_bag, d__law_take, d__law_of, d__law_character, d__law_text, d_first_unknown, d_overfull, d_first_fault, d_need_text, d_need_plain, d_head_of, d_next_state, d_read_in, d_least_weak, d_least_of, d_words_of, d_least, d__law_longer, d__law_lesser, d_lead_of, d_direction_of, d_next_direction, d_fate, d_fate_within, d_entry_of, d_states, d_effect_of, d_is_one_kind, d_need_factor, d_product, d_law]
def k_BEHIND_DIGIT : List (List Nat × List Nat) := [([], [32]), ([100, 105, 103, 105, 116], []), ([115, 105, 103, 110], [44]), ([106, 111, 105, 110, 101, 100], [35]), ([114, 117, 110], [32, 35])]
abbrev c_BEHIND_DIGIT : List (List Nat × D) := strKD k_BEHIND_DIGIT
def k_ENDINGS : List (List Nat × List Nat) := [([], []), ([100, 105, 103, 105, 116], [48]), ([115, 105, 103, 110], [48, 44]), ([106, 111, 105, 110, 101, 100], [48, 35]), ([114, 117, 110], [35])]
abbrev c_ENDINGS : List (List Nat × D) := strKD k_ENDINGS
def k_KINDS : List (List Nat × List Nat) := [([97], [76]), ([98], [76]), ([99], [76]), ([100], [76]), ([101], [76]), ([102], [76]), ([103], [76]), ([104], [76]), ([105], [76]), ([106], [76]), ([107], [76]), ([108], [76]), ([109], [76]), ([110], [76]), ([111], [76]), ([112], [76]), ([113], [76]), ([114], [76]), ([115], [76]), ([116], [76]), ([117], [76]), ([118], [76]), ([119], [76]), ([120], [76]), ([121], [76]), ([122], [76]), ([43], [76]), ([65], [82]), ([66], [82]), ([67], [82]), ([68], [82]), ([69], [82]), ([70], [82]), ([71], [82]), ([72], [82]), ([73], [82]), ([74], [82]), ([75], [82]), ([76], [82]), ([77], [82]), ([42], [82]), ([78], [65]), ([79], [65]), ([80], [65]), ([81], [65]), ([82], [65]), ([83], [65]), ([84], [65]), ([85], [65]), ([86], [65]), ([87], [65]), ([88], [65]), ([89], [65]), ([90], [65]), ([48], [68]), ([49], [68]), ([50], [68]), ([51], [68]), ([52], [68]), ([53], [68]), ([54], [68]), ([55], [68]), ([56], [68]), ([57], [68]), ([44], [83]), ([46], [83]), ([58], [83]), ([36], [84]), ([35], [84]), ([32], [78]), ([33], [78]), ([63], [78]), ([45], [78]), ([40], [78]), ([41], [78]), ([91], [78]), ([93], [78])]
abbrev c_KINDS : List (List Nat × D) := strKD k_KINDS
def k_LEAST_CHARACTERS : List (List Nat × List Nat) := [([78], [32]), ([84], [35]), ([82], [42]), ([76], [43]), ([83], [44]), ([68], [48]), ([65], [78])]
abbrev c_LEAST_CHARACTERS : List (List Nat × D) := strKD k_LEAST_CHARACTERS
def k_TAILS : List (List Nat) := [[], [100, 105, 103, 105, 116], [106, 111, 105, 110, 101, 100], [114, 117, 110], [115, 105, 103, 110]]
abbrev c_TAILS : List D := strD k_TAILS
def fa : List He.Fa := [.glo "_law_bag", .glo "_law_take", .glo "_law_of", .glo "_law_character", .glo "_law_text", .glo "first_unknown", .glo "overfull", .glo "first_fault", .glo "need_text", .glo "need_plain", .glo "head_of", .glo "next_state", .glo "read_in", .glo "least_weak", .glo "least_of", .glo "words_of", .glo "least", .glo "_law_longer", .glo "_law_lesser", .glo "lead_of", .glo "direction_of", .glo "next_direction", .glo "fate", .glo "fate_within", .glo "entry_of", .glo "states", .glo "effect_of", .glo "is_one_kind", .glo "need_factor", .glo "product", .glo "law", .free "abs", .free "all", .free "any", .free "enumerate", .free "int", .free "isinstance", .free "len", .free "list", .free "max", .free "min", .free "next", .free "range", .free "sorted", .free "str", .str "BEGINS" (sS c_BEGINS), .glo "BEHIND_DIGIT", .str "DIGIT" (sS c_DIGIT), .str "END" (sS c_END), .glo "ENDINGS", .glo "KINDS", .str "KNOWN" (sS c_KNOWN), .glo "LEAST_CHARACTERS", .int "MOST_CHARACTERS" 400, .int "MOST_FACTOR" 200, .int "MOST_OPEN" 20, .str "PLAIN_CHARACTERS" (sS c_PLAIN_CHARACTERS), .str "STRONG" (sS c_STRONG), .glo "TAILS"]
def ts : List He.Tab := [(fun K => He.ga K "BEHIND_DIGIT", (["", "digit", "sign", "joined", "run"] : List Str)), (fun K => He.ga K "ENDINGS", (["", "digit", "sign", "joined", "run"] : List Str)), (fun K => He.ga K "KINDS", (["a", "b", "c", "d", "e", "f", "g", "h", "i", "j", "k", "l", "m", "n", "o", "p", "q", "r", "s", "t"] : List Str) ++ (["u", "v", "w", "x", "y", "z", "+", "A", "B", "C", "D", "E", "F", "G", "H", "I", "J", "K", "L", "M"] : List Str) ++ (["*", "N", "O", "P", "Q", "R", "S", "T", "U", "V", "W", "X", "Y", "Z", "0", "1", "2", "3", "4", "5"] : List Str) ++ (["6", "7", "8", "9", ",", ".", ":", "$", "#", " ", "!", "?", "-", "(", ")", "[", "]"] : List Str)), (fun K => He.ga K "LEAST_CHARACTERS", (["N", "T", "R", "L", "S", "D", "A"] : List Str))]
def tf : List He.Defn := [("lead_of", none)]
def exB (K : PySem.W.Frag) : Bool := (He.valsB K (He.ga K "BEHIND_DIGIT") (k_BEHIND_DIGIT.map fun p => (sS p.1, .str (sS p.2)))) && (He.valsB K (He.ga K "ENDINGS") (k_ENDINGS.map fun p => (sS p.1, .str (sS p.2)))) && (He.valsB K (He.ga K "KINDS") (k_KINDS.map fun p => (sS p.1, .str (sS p.2)))) && (He.valsB K (He.ga K "LEAST_CHARACTERS") (k_LEAST_CHARACTERS.map fun p => (sS p.1, .str (sS p.2)))) && (He.tupB K "TAILS" (k_TAILS.map fun z => .str (sS z)))
def Fx (w : World) (K : PySem.W.Frag) (mg : Str → Option Value) : Prop := ∃ h : Heap, K.In h ∧ h.Ns mainGlobals mg ∧ He.SaysX fa fn ts tf exB w h K
def tbs (K : PySem.W.Frag) : List (Addr × Option Str) := tf.map fun p => ((He.cT K p).2, none)
def tb (K : PySem.W.Frag) : Tb := ⟨fun _ => 0, fun _ => [], fun _ => Str.empty, tbs K, fun _ _ _ _ => False, fun _ _ _ _ _ _ h => h, fun _ _ _ _ h => h.elim⟩
theorem tbs_mem (K : PySem.W.Frag) {p : He.Defn} (h : p ∈ tf) : ((He.cT K p).2, none) ∈ (tb K).tabs := List.mem_map.mpr ⟨p, h, rfl⟩
theorem tbs_none (K : PySem.W.Frag) {a : Addr} : ∀ z ∈ (tb K).tabs, z.1 = a → z.2 = none := fun z hz _ => let ⟨p, _, e⟩ := List.mem_map.mp hz; e ▸ rfl
def Bx (K : PySem.W.Frag) (mg : Str → Option Value) (base : Heap) : Prop := ∀ p ∈ tf, LamX.TabB base mg (He.cT K p).1 (He.cT K p).2
section
variable {P : Program} {w : World} {K : PySem.W.Frag} {mg : Str → Option Value} {base : Heap}
theorem g__law_bag (F : Fx w K mg) : mg "_law_bag" = some (.ref (He.ga K "_law_bag")) := by
  obtain ⟨h, X, G, c⟩ := F
  exact He.glo_ok X G (c.t.d.fact 0 (f := .glo "_law_bag") rfl)
theorem g__law_take (F : Fx w K mg) : mg "_law_take" = some (.ref (He.ga K "_law_take")) := by
  obtain ⟨h, X, G, c⟩ := F
  exact He.glo_ok X G (c.t.d.fact 1 (f := .glo "_law_take") rfl)
theorem g__law_of (F : Fx w K mg) : mg "_law_of" = some (.ref (He.ga K "_law_of")) := by
  obtain ⟨h, X, G, c⟩ := F
  exact He.glo_ok X G (c.t.d.fact 2 (f := .glo "_law_of") rfl)
theorem g__law_character (F : Fx w K mg) : mg "_law_character" = some (.ref (He.ga K "_law_character")) := by
  obtain ⟨h, X, G, c⟩ := F
  exact He.glo_ok X G (c.t.d.fact 3 (f := .glo "_law_character") rfl)
theorem g__law_text (F : Fx w K mg) : mg "_law_text" = some (.ref (He.ga K "_law_text")) := by
  obtain ⟨h, X, G, c⟩ := F
  exact He.glo_ok X G (c.t.d.fact 4 (f := .glo "_law_text") rfl)
theorem g_first_unknown (F : Fx w K mg) : mg "first_unknown" = some (.ref (He.ga K "first_unknown")) := by
  obtain ⟨h, X, G, c⟩ := F
  exact He.glo_ok X G (c.t.d.fact 5 (f := .glo "first_unknown") rfl)
theorem g_overfull (F : Fx w K mg) : mg "overfull" = some (.ref (He.ga K "overfull")) := by
  obtain ⟨h, X, G, c⟩ := F
  exact He.glo_ok X G (c.t.d.fact 6 (f := .glo "overfull") rfl)
theorem g_first_fault (F : Fx w K mg) : mg "first_fault" = some (.ref (He.ga K "first_fault")) := by
  obtain ⟨h, X, G, c⟩ := F
  exact He.glo_ok X G (c.t.d.fact 7 (f := .glo "first_fault") rfl)
theorem g_need_text (F : Fx w K mg) : mg "need_text" = some (.ref (He.ga K "need_text")) := by
  obtain ⟨h, X, G, c⟩ := F
  exact He.glo_ok X G (c.t.d.fact 8 (f := .glo "need_text") rfl)
theorem g_need_plain (F : Fx w K mg) : mg "need_plain" = some (.ref (He.ga K "need_plain")) := by
  obtain ⟨h, X, G, c⟩ := F
  exact He.glo_ok X G (c.t.d.fact 9 (f := .glo "need_plain") rfl)
theorem g_head_of (F : Fx w K mg) : mg "head_of" = some (.ref (He.ga K "head_of")) := by
  obtain ⟨h, X, G, c⟩ := F
  exact He.glo_ok X G (c.t.d.fact 10 (f := .glo "head_of") rfl)
theorem g_next_state (F : Fx w K mg) : mg "next_state" = some (.ref (He.ga K "next_state")) := by
  obtain ⟨h, X, G, c⟩ := F
  exact He.glo_ok X G (c.t.d.fact 11 (f := .glo "next_state") rfl)
theorem g_read_in (F : Fx w K mg) : mg "read_in" = some (.ref (He.ga K "read_in")) := by
  obtain ⟨h, X, G, c⟩ := F
  exact He.glo_ok X G (c.t.d.fact 12 (f := .glo "read_in") rfl)
theorem g_least_weak (F : Fx w K mg) : mg "least_weak" = some (.ref (He.ga K "least_weak")) := by
  obtain ⟨h, X, G, c⟩ := F
  exact He.glo_ok X G (c.t.d.fact 13 (f := .glo "least_weak") rfl)
theorem g_least_of (F : Fx w K mg) : mg "least_of" = some (.ref (He.ga K "least_of")) := by
  obtain ⟨h, X, G, c⟩ := F
  exact He.glo_ok X G (c.t.d.fact 14 (f := .glo "least_of") rfl)
theorem g_words_of (F : Fx w K mg) : mg "words_of" = some (.ref (He.ga K "words_of")) := by
  obtain ⟨h, X, G, c⟩ := F
  exact He.glo_ok X G (c.t.d.fact 15 (f := .glo "words_of") rfl)
theorem g_least (F : Fx w K mg) : mg "least" = some (.ref (He.ga K "least")) := by
  obtain ⟨h, X, G, c⟩ := F
  exact He.glo_ok X G (c.t.d.fact 16 (f := .glo "least") rfl)
theorem g__law_longer (F : Fx w K mg) : mg "_law_longer" = some (.ref (He.ga K "_law_longer")) := by
  obtain ⟨h, X, G, c⟩ := F
  exact He.glo_ok X G (c.t.d.fact 17 (f := .glo "_law_longer") rfl)
theorem g__law_lesser (F : Fx w K mg) : mg "_law_lesser" = some (.ref (He.ga K "_law_lesser")) := by
  obtain ⟨h, X, G, c⟩ := F
  exact He.glo_ok X G (c.t.d.fact 18 (f := .glo "_law_lesser") rfl)
theorem g_lead_of (F : Fx w K mg) : mg "lead_of" = some (.ref (He.ga K "lead_of")) := by
  obtain ⟨h, X, G, c⟩ := F
  exact He.glo_ok X G (c.t.d.fact 19 (f := .glo "lead_of") rfl)
theorem g_direction_of (F : Fx w K mg) : mg "direction_of" = some (.ref (He.ga K "direction_of")) := by
  obtain ⟨h, X, G, c⟩ := F
  exact He.glo_ok X G (c.t.d.fact 20 (f := .glo "direction_of") rfl)
theorem g_next_direction (F : Fx w K mg) : mg "next_direction" = some (.ref (He.ga K "next_direction")) := by
  obtain ⟨h, X, G, c⟩ := F
  exact He.glo_ok X G (c.t.d.fact 21 (f := .glo "next_direction") rfl)
theorem g_fate (F : Fx w K mg) : mg "fate" = some (.ref (He.ga K "fate")) := by
  obtain ⟨h, X, G, c⟩ := F
  exact He.glo_ok X G (c.t.d.fact 22 (f := .glo "fate") rfl)
theorem g_fate_within (F : Fx w K mg) : mg "fate_within" = some (.ref (He.ga K "fate_within")) := by
  obtain ⟨h, X, G, c⟩ := F
  exact He.glo_ok X G (c.t.d.fact 23 (f := .glo "fate_within") rfl)
theorem g_entry_of (F : Fx w K mg) : mg "entry_of" = some (.ref (He.ga K "entry_of")) := by
  obtain ⟨h, X, G, c⟩ := F
  exact He.glo_ok X G (c.t.d.fact 24 (f := .glo "entry_of") rfl)
theorem g_states (F : Fx w K mg) : mg "states" = some (.ref (He.ga K "states")) := by
  obtain ⟨h, X, G, c⟩ := F
  exact He.glo_ok X G (c.t.d.fact 25 (f := .glo "states") rfl)
theorem g_effect_of (F : Fx w K mg) : mg "effect_of" = some (.ref (He.ga K "effect_of")) := by
  obtain ⟨h, X, G, c⟩ := F
  exact He.glo_ok X G (c.t.d.fact 26 (f := .glo "effect_of") rfl)
theorem g_is_one_kind (F : Fx w K mg) : mg "is_one_kind" = some (.ref (He.ga K "is_one_kind")) := by
  obtain ⟨h, X, G, c⟩ := F
  exact He.glo_ok X G (c.t.d.fact 27 (f := .glo "is_one_kind") rfl)
theorem g_need_factor (F : Fx w K mg) : mg "need_factor" = some (.ref (He.ga K "need_factor")) := by
  obtain ⟨h, X, G, c⟩ := F
  exact He.glo_ok X G (c.t.d.fact 28 (f := .glo "need_factor") rfl)
theorem g_product (F : Fx w K mg) : mg "product" = some (.ref (He.ga K "product")) := by
  obtain ⟨h, X, G, c⟩ := F
  exact He.glo_ok X G (c.t.d.fact 29 (f := .glo "product") rfl)
theorem g_law (F : Fx w K mg) : mg "law" = some (.ref (He.ga K "law")) := by
  obtain ⟨h, X, G, c⟩ := F
  exact He.glo_ok X G (c.t.d.fact 30 (f := .glo "law") rfl)
theorem n_abs (F : Fx w K mg) : mg "abs" = none := by
  obtain ⟨h, X, G, c⟩ := F
  exact He.free_ok X G (c.t.d.fact 31 (f := .free "abs") rfl)
theorem n_all (F : Fx w K mg) : mg "all" = none := by
  obtain ⟨h, X, G, c⟩ := F
  exact He.free_ok X G (c.t.d.fact 32 (f := .free "all") rfl)
theorem n_any (F : Fx w K mg) : mg "any" = none := by
  obtain ⟨h, X, G, c⟩ := F
  exact He.free_ok X G (c.t.d.fact 33 (f := .free "any") rfl)
theorem n_enumerate (F : Fx w K mg) : mg "enumerate" = none := by
  obtain ⟨h, X, G, c⟩ := F
  exact He.free_ok X G (c.t.d.fact 34 (f := .free "enumerate") rfl)
theorem n_int (F : Fx w K mg) : mg "int" = none := by
  obtain ⟨h, X, G, c⟩ := F
  exact He.free_ok X G (c.t.d.fact 35 (f := .free "int") rfl)
theorem n_isinstance (F : Fx w K mg) : mg "isinstance" = none := by
  obtain ⟨h, X, G, c⟩ := F
  exact He.free_ok X G (c.t.d.fact 36 (f := .free "isinstance") rfl)
theorem n_len (F : Fx w K mg) : mg "len" = none := by
  obtain ⟨h, X, G, c⟩ := F
  exact He.free_ok X G (c.t.d.fact 37 (f := .free "len") rfl)
theorem n_list (F : Fx w K mg) : mg "list" = none := by
  obtain ⟨h, X, G, c⟩ := F
  exact He.free_ok X G (c.t.d.fact 38 (f := .free "list") rfl)
theorem n_max (F : Fx w K mg) : mg "max" = none := by
  obtain ⟨h, X, G, c⟩ := F
  exact He.free_ok X G (c.t.d.fact 39 (f := .free "max") rfl)
theorem n_min (F : Fx w K mg) : mg "min" = none := by
  obtain ⟨h, X, G, c⟩ := F
  exact He.free_ok X G (c.t.d.fact 40 (f := .free "min") rfl)
theorem n_next (F : Fx w K mg) : mg "next" = none := by
  obtain ⟨h, X, G, c⟩ := F
  exact He.free_ok X G (c.t.d.fact 41 (f := .free "next") rfl)
theorem n_range (F : Fx w K mg) : mg "range" = none := by
  obtain ⟨h, X, G, c⟩ := F
  exact He.free_ok X G (c.t.d.fact 42 (f := .free "range") rfl)
theorem n_sorted (F : Fx w K mg) : mg "sorted" = none := by
  obtain ⟨h, X, G, c⟩ := F
  exact He.free_ok X G (c.t.d.fact 43 (f := .free "sorted") rfl)
theorem n_str (F : Fx w K mg) : mg "str" = none := by
  obtain ⟨h, X, G, c⟩ := F
  exact He.free_ok X G (c.t.d.fact 44 (f := .free "str") rfl)
theorem v_BEGINS (F : Fx w K mg) : ∃ u, mg "BEGINS" = some (.str (sS c_BEGINS) u) := by
  obtain ⟨h, X, G, c⟩ := F
  exact He.str_ok X G (c.t.d.fact 45 (f := .str "BEGINS" (sS c_BEGINS)) rfl)
theorem g_BEHIND_DIGIT (F : Fx w K mg) : mg "BEHIND_DIGIT" = some (.ref (He.ga K "BEHIND_DIGIT")) := by
  obtain ⟨h, X, G, c⟩ := F
  exact He.glo_ok X G (c.t.d.fact 46 (f := .glo "BEHIND_DIGIT") rfl)
theorem v_DIGIT (F : Fx w K mg) : ∃ u, mg "DIGIT" = some (.str (sS c_DIGIT) u) := by
  obtain ⟨h, X, G, c⟩ := F
  exact He.str_ok X G (c.t.d.fact 47 (f := .str "DIGIT" (sS c_DIGIT)) rfl)
theorem v_END (F : Fx w K mg) : ∃ u, mg "END" = some (.str (sS c_END) u) := by
  obtain ⟨h, X, G, c⟩ := F
  exact He.str_ok X G (c.t.d.fact 48 (f := .str "END" (sS c_END)) rfl)
theorem g_ENDINGS (F : Fx w K mg) : mg "ENDINGS" = some (.ref (He.ga K "ENDINGS")) := by
  obtain ⟨h, X, G, c⟩ := F
  exact He.glo_ok X G (c.t.d.fact 49 (f := .glo "ENDINGS") rfl)
theorem g_KINDS (F : Fx w K mg) : mg "KINDS" = some (.ref (He.ga K "KINDS")) := by
  obtain ⟨h, X, G, c⟩ := F
  exact He.glo_ok X G (c.t.d.fact 50 (f := .glo "KINDS") rfl)
theorem v_KNOWN (F : Fx w K mg) : ∃ u, mg "KNOWN" = some (.str (sS c_KNOWN) u) := by
  obtain ⟨h, X, G, c⟩ := F
  exact He.str_ok X G (c.t.d.fact 51 (f := .str "KNOWN" (sS c_KNOWN)) rfl)
theorem g_LEAST_CHARACTERS (F : Fx w K mg) : mg "LEAST_CHARACTERS" = some (.ref (He.ga K "LEAST_CHARACTERS")) := by
  obtain ⟨h, X, G, c⟩ := F
  exact He.glo_ok X G (c.t.d.fact 52 (f := .glo "LEAST_CHARACTERS") rfl)
theorem v_MOST_CHARACTERS (F : Fx w K mg) : ∃ u, mg "MOST_CHARACTERS" = some (.int 400 u) := by
  obtain ⟨h, X, G, c⟩ := F
  exact He.int_ok X G (c.t.d.fact 53 (f := .int "MOST_CHARACTERS" 400) rfl)
theorem v_MOST_FACTOR (F : Fx w K mg) : ∃ u, mg "MOST_FACTOR" = some (.int 200 u) := by
  obtain ⟨h, X, G, c⟩ := F
  exact He.int_ok X G (c.t.d.fact 54 (f := .int "MOST_FACTOR" 200) rfl)
theorem v_MOST_OPEN (F : Fx w K mg) : ∃ u, mg "MOST_OPEN" = some (.int 20 u) := by
  obtain ⟨h, X, G, c⟩ := F
  exact He.int_ok X G (c.t.d.fact 55 (f := .int "MOST_OPEN" 20) rfl)
theorem v_PLAIN_CHARACTERS (F : Fx w K mg) : ∃ u, mg "PLAIN_CHARACTERS" = some (.str (sS c_PLAIN_CHARACTERS) u) := by
  obtain ⟨h, X, G, c⟩ := F
  exact He.str_ok X G (c.t.d.fact 56 (f := .str "PLAIN_CHARACTERS" (sS c_PLAIN_CHARACTERS)) rfl)
theorem v_STRONG (F : Fx w K mg) : ∃ u, mg "STRONG" = some (.str (sS c_STRONG) u) := by
  obtain ⟨h, X, G, c⟩ := F
  exact He.str_ok X G (c.t.d.fact 57 (f := .str "STRONG" (sS c_STRONG)) rfl)
theorem g_TAILS (F : Fx w K mg) : mg "TAILS" = some (.ref (He.ga K "TAILS")) := by
  obtain ⟨h, X, G, c⟩ := F
  exact He.glo_ok X G (c.t.d.fact 58 (f := .glo "TAILS") rfl)
theorem t_BEHIND_DIGIT (F : Fx w K mg) {X : Cx} {t : Tb} (hK : X.K = K) (hw : X.w = w) : KTab X t (He.ga K "BEHIND_DIGIT") c_BEHIND_DIGIT := by
  obtain ⟨h, Y, G, q⟩ := F
  exact tab_kd hK hw (q.t.tab 0 (t := (fun K => He.ga K "BEHIND_DIGIT", (["", "digit", "sign", "joined", "run"] : List Str))) rfl) ((He.ba (He.ba (He.ba (He.ba q.more).1).1).1).1) (by decide)
theorem t_ENDINGS (F : Fx w K mg) {X : Cx} {t : Tb} (hK : X.K = K) (hw : X.w = w) : KTab X t (He.ga K "ENDINGS") c_ENDINGS := by
  obtain ⟨h, Y, G, q⟩ := F
  exact tab_kd hK hw (q.t.tab 1 (t := (fun K => He.ga K "ENDINGS", (["", "digit", "sign", "joined", "run"] : List Str))) rfl) ((He.ba (He.ba (He.ba (He.ba q.more).1).1).1).2) (by decide)
theorem t_KINDS (F : Fx w K mg) {X : Cx} {t : Tb} (hK : X.K = K) (hw : X.w = w) : KTab X t (He.ga K "KINDS") c_KINDS := by
  obtain ⟨h, Y, G, q⟩ := F
  exact tab_kd hK hw (q.t.tab 2 (t := (fun K => He.ga K "KINDS", (["a", "b", "c", "d", "e", "f", "g", "h", "i", "j", "k", "l", "m", "n", "o", "p", "q", "r", "s", "t"] : List Str) ++ (["u", "v", "w", "x", "y", "z", "+", "A", "B", "C", "D", "E", "F", "G", "H", "I", "J", "K", "L", "M"] : List Str) ++ (["*", "N", "O", "P", "Q", "R", "S", "T", "U", "V", "W", "X", "Y", "Z", "0", "1", "2", "3", "4", "5"] : List Str) ++ (["6", "7", "8", "9", ",", ".", ":", "$", "#", " ", "!", "?", "-", "(", ")", "[", "]"] : List Str))) rfl) ((He.ba (He.ba (He.ba q.more).1).1).2) (by decide)
theorem t_LEAST_CHARACTERS (F : Fx w K mg) {X : Cx} {t : Tb} (hK : X.K = K) (hw : X.w = w) : KTab X t (He.ga K "LEAST_CHARACTERS") c_LEAST_CHARACTERS := by
  obtain ⟨h, Y, G, q⟩ := F
  exact tab_kd hK hw (q.t.tab 3 (t := (fun K => He.ga K "LEAST_CHARACTERS", (["N", "T", "R", "L", "S", "D", "A"] : List Str))) rfl) ((He.ba (He.ba q.more).1).2) (by decide)
theorem t_TAILS (F : Fx w K mg) {c : Cn} (hK : c.K = K) (H : Hp) : Dat c H (.tup c_TAILS) (.ref (He.ga K "TAILS")) := by
  obtain ⟨h, X, G, q⟩ := F
  exact tab_strs c hK ((He.ba q.more).2) (by decide) (by decide) H
theorem fd__law_bag (F : Fx w K mg) : ∃ fd, FunD K "_law_bag" "_law_bag" (defArgs (top 42)) (defBody (top 42)) (defScope (top 42)) (d__law_bag.dvs K) (d__law_bag.kws K) (He.ga K "_law_bag") fd := by
  obtain ⟨h, X, G, c⟩ := F
  exact c.t.d.def_ 0 (d := d__law_bag) rfl
theorem fd__law_take (F : Fx w K mg) : ∃ fd, FunD K "_law_take" "_law_take" (defArgs (top 43)) (defBody (top 43)) (defScope (top 43)) (d__law_take.dvs K) (d__law_take.kws K) (He.ga K "_law_take") fd := by
  obtain ⟨h, X, G, c⟩ := F
  exact c.t.d.def_ 1 (d := d__law_take) rfl
theorem fd__law_of (F : Fx w K mg) : ∃ fd, FunD K "_law_of" "_law_of" (defArgs (top 44)) (defBody (top 44)) (defScope (top 44)) (d__law_of.dvs K) (d__law_of.kws K) (He.ga K "_law_of") fd := by
  obtain ⟨h, X, G, c⟩ := F
  exact c.t.d.def_ 2 (d := d__law_of) rfl
theorem fd__law_character (F : Fx w K mg) : ∃ fd, FunD K "_law_character" "_law_character" (defArgs (top 45)) (defBody (top 45)) (defScope (top 45)) (d__law_character.dvs K) (d__law_character.kws K) (He.ga K "_law_character") fd := by
  obtain ⟨h, X, G, c⟩ := F
  exact c.t.d.def_ 3 (d := d__law_character) rfl
theorem fd__law_text (F : Fx w K mg) : ∃ fd, FunD K "_law_text" "_law_text" (defArgs (top 46)) (defBody (top 46)) (defScope (top 46)) (d__law_text.dvs K) (d__law_text.kws K) (He.ga K "_law_text") fd := by
  obtain ⟨h, X, G, c⟩ := F
  exact c.t.d.def_ 4 (d := d__law_text) rfl
theorem fd_first_unknown (F : Fx w K mg) : ∃ fd, FunD K "first_unknown" "first_unknown" (defArgs (top 11)) (defBody (top 11)) (defScope (top 11)) (d_first_unknown.dvs K) (d_first_unknown.kws K) (He.ga K "first_unknown") fd := by
  obtain ⟨h, X, G, c⟩ := F
  exact c.t.d.def_ 5 (d := d_first_unknown) rfl
theorem fd_overfull (F : Fx w K mg) : ∃ fd, FunD K "overfull" "overfull" (defArgs (top 10)) (defBody (top 10)) (defScope (top 10)) (d_overfull.dvs K) (d_overfull.kws K) (He.ga K "overfull") fd := by
  obtain ⟨h, X, G, c⟩ := F
  exact c.t.d.def_ 6 (d := d_overfull) rfl
theorem fd_first_fault (F : Fx w K mg) : ∃ fd, FunD K "first_fault" "first_fault" (defArgs (top 12)) (defBody (top 12)) (defScope (top 12)) (d_first_fault.dvs K) (d_first_fault.kws K) (He.ga K "first_fault") fd := by
  obtain ⟨h, X, G, c⟩ := F
  exact c.t.d.def_ 7 (d := d_first_fault) rfl
theorem fd_need_text (F : Fx w K mg) : ∃ fd, FunD K "need_text" "need_text" (defArgs (top 13)) (defBody (top 13)) (defScope (top 13)) (d_need_text.dvs K) (d_need_text.kws K) (He.ga K "need_text") fd := by
  obtain ⟨h, X, G, c⟩ := F
  exact c.t.d.def_ 8 (d := d_need_text) rfl
theorem fd_need_plain (F : Fx w K mg) : ∃ fd, FunD K "need_plain" "need_plain" (defArgs (top 27)) (defBody (top 27)) (defScope (top 27)) (d_need_plain.dvs K) (d_need_plain.kws K) (He.ga K "need_plain") fd := by
  obtain ⟨h, X, G, c⟩ := F
  exact c.t.d.def_ 9 (d := d_need_plain) rfl
theorem fd_head_of (F : Fx w K mg) : ∃ fd, FunD K "head_of" "head_of" (defArgs (top 35)) (defBody (top 35)) (defScope (top 35)) (d_head_of.dvs K) (d_head_of.kws K) (He.ga K "head_of") fd := by
  obtain ⟨h, X, G, c⟩ := F
  exact c.t.d.def_ 10 (d := d_head_of) rfl
theorem fd_next_state (F : Fx w K mg) : ∃ fd, FunD K "next_state" "next_state" (defArgs (top 23)) (defBody (top 23)) (defScope (top 23)) (d_next_state.dvs K) (d_next_state.kws K) (He.ga K "next_state") fd := by
  obtain ⟨h, X, G, c⟩ := F
  exact c.t.d.def_ 11 (d := d_next_state) rfl
theorem fd_read_in (F : Fx w K mg) : ∃ fd, FunD K "read_in" "read_in" (defArgs (top 30)) (defBody (top 30)) (defScope (top 30)) (d_read_in.dvs K) (d_read_in.kws K) (He.ga K "read_in") fd := by
  obtain ⟨h, X, G, c⟩ := F
  exact c.t.d.def_ 12 (d := d_read_in) rfl
theorem fd_least_weak (F : Fx w K mg) : ∃ fd, FunD K "least_weak" "least_weak" (defArgs (top 36)) (defBody (top 36)) (defScope (top 36)) (d_least_weak.dvs K) (d_least_weak.kws K) (He.ga K "least_weak") fd := by
  obtain ⟨h, X, G, c⟩ := F
  exact c.t.d.def_ 13 (d := d_least_weak) rfl
theorem fd_least_of (F : Fx w K mg) : ∃ fd, FunD K "least_of" "least_of" (defArgs (top 37)) (defBody (top 37)) (defScope (top 37)) (d_least_of.dvs K) (d_least_of.kws K) (He.ga K "least_of") fd := by
  obtain ⟨h, X, G, c⟩ := F
  exact c.t.d.def_ 14 (d := d_least_of) rfl
theorem fd_words_of (F : Fx w K mg) : ∃ fd, FunD K "words_of" "words_of" (defArgs (top 29)) (defBody (top 29)) (defScope (top 29)) (d_words_of.dvs K) (d_words_of.kws K) (He.ga K "words_of") fd := by
  obtain ⟨h, X, G, c⟩ := F
  exact c.t.d.def_ 15 (d := d_words_of) rfl
theorem fd_least (F : Fx w K mg) : ∃ fd, FunD K "least" "least" (defArgs (top 39)) (defBody (top 39)) (defScope (top 39)) (d_least.dvs K) (d_least.kws K) (He.ga K "least") fd := by
  obtain ⟨h, X, G, c⟩ := F
  exact c.t.d.def_ 16 (d := d_least) rfl
theorem fd__law_longer (F : Fx w K mg) : ∃ fd, FunD K "_law_longer" "_law_longer" (defArgs (top 47)) (defBody (top 47)) (defScope (top 47)) (d__law_longer.dvs K) (d__law_longer.kws K) (He.ga K "_law_longer") fd := by
  obtain ⟨h, X, G, c⟩ := F
  exact c.t.d.def_ 17 (d := d__law_longer) rfl
theorem fd__law_lesser (F : Fx w K mg) : ∃ fd, FunD K "_law_lesser" "_law_lesser" (defArgs (top 48)) (defBody (top 48)) (defScope (top 48)) (d__law_lesser.dvs K) (d__law_lesser.kws K) (He.ga K "_law_lesser") fd := by
  obtain ⟨h, X, G, c⟩ := F
  exact c.t.d.def_ 18 (d := d__law_lesser) rfl
theorem fd_lead_of (F : Fx w K mg) : ∃ fd, FunD K "lead_of" "lead_of" (defArgs (top 34)) (defBody (top 34)) (defScope (top 34)) (d_lead_of.dvs K) (d_lead_of.kws K) (He.ga K "lead_of") fd := by
  obtain ⟨h, X, G, c⟩ := F
  exact c.t.d.def_ 19 (d := d_lead_of) rfl
theorem fd_direction_of (F : Fx w K mg) : ∃ fd, FunD K "direction_of" "direction_of" (defArgs (top 24)) (defBody (top 24)) (defScope (top 24)) (d_direction_of.dvs K) (d_direction_of.kws K) (He.ga K "direction_of") fd := by
  obtain ⟨h, X, G, c⟩ := F
  exact c.t.d.def_ 20 (d := d_direction_of) rfl
theorem fd_next_direction (F : Fx w K mg) : ∃ fd, FunD K "next_direction" "next_direction" (defArgs (top 25)) (defBody (top 25)) (defScope (top 25)) (d_next_direction.dvs K) (d_next_direction.kws K) (He.ga K "next_direction") fd := by
  obtain ⟨h, X, G, c⟩ := F
  exact c.t.d.def_ 21 (d := d_next_direction) rfl
theorem fd_fate (F : Fx w K mg) : ∃ fd, FunD K "fate" "fate" (defArgs (top 26)) (defBody (top 26)) (defScope (top 26)) (d_fate.dvs K) (d_fate.kws K) (He.ga K "fate") fd := by
  obtain ⟨h, X, G, c⟩ := F
  exact c.t.d.def_ 22 (d := d_fate) rfl
theorem fd_fate_within (F : Fx w K mg) : ∃ fd, FunD K "fate_within" "fate_within" (defArgs (top 31)) (defBody (top 31)) (defScope (top 31)) (d_fate_within.dvs K) (d_fate_within.kws K) (He.ga K "fate_within") fd := by
  obtain ⟨h, X, G, c⟩ := F
  exact c.t.d.def_ 23 (d := d_fate_within) rfl
theorem fd_entry_of (F : Fx w K mg) : ∃ fd, FunD K "entry_of" "entry_of" (defArgs (top 32)) (defBody (top 32)) (defScope (top 32)) (d_entry_of.dvs K) (d_entry_of.kws K) (He.ga K "entry_of") fd := by
  obtain ⟨h, X, G, c⟩ := F
  exact c.t.d.def_ 24 (d := d_entry_of) rfl
theorem fd_states (F : Fx w K mg) : ∃ fd, FunD K "states" "states" (defArgs (top 22)) (defBody (top 22)) (defScope (top 22)) (d_states.dvs K) (d_states.kws K) (He.ga K "states") fd := by
  obtain ⟨h, X, G, c⟩ := F
  exact c.t.d.def_ 25 (d := d_states) rfl
theorem fd_effect_of (F : Fx w K mg) : ∃ fd, FunD K "effect_of" "effect_of" (defArgs (top 33)) (defBody (top 33)) (defScope (top 33)) (d_effect_of.dvs K) (d_effect_of.kws K) (He.ga K "effect_of") fd := by
  obtain ⟨h, X, G, c⟩ := F
  exact c.t.d.def_ 26 (d := d_effect_of) rfl
theorem fd_is_one_kind (F : Fx w K mg) : ∃ fd, FunD K "is_one_kind" "is_one_kind" (defArgs (top 38)) (defBody (top 38)) (defScope (top 38)) (d_is_one_kind.dvs K) (d_is_one_kind.kws K) (He.ga K "is_one_kind") fd := by
  obtain ⟨h, X, G, c⟩ := F
  exact c.t.d.def_ 27 (d := d_is_one_kind) rfl
theorem fd_need_factor (F : Fx w K mg) : ∃ fd, FunD K "need_factor" "need_factor" (defArgs (top 28)) (defBody (top 28)) (defScope (top 28)) (d_need_factor.dvs K) (d_need_factor.kws K) (He.ga K "need_factor") fd := by
  obtain ⟨h, X, G, c⟩ := F
  exact c.t.d.def_ 28 (d := d_need_factor) rfl
theorem fd_product (F : Fx w K mg) : ∃ fd, FunD K "product" "product" (defArgs (top 40)) (defBody (top 40)) (defScope (top 40)) (d_product.dvs K) (d_product.kws K) (He.ga K "product") fd := by
  obtain ⟨h, X, G, c⟩ := F
  exact c.t.d.def_ 29 (d := d_product) rfl
theorem fd_law (F : Fx w K mg) : ∃ fd, FunD K "law" "law" (defArgs (top 49)) (defBody (top 49)) (defScope (top 49)) (d_law.dvs K) (d_law.kws K) (He.ga K "law") fd := by
  obtain ⟨h, X, G, c⟩ := F
  exact c.t.d.def_ 30 (d := d_law) rfl
end
section
variable {P : Program} {w : World} {K : PySem.W.Frag} {mg : Str → Option Value} {base : Heap}
def N__law_bag : List Str := ["_law_script", "_law_at", "_law_cell", "_law_mixed", "_law_k", "_law_each"]
abbrev b__law_bag_0 : MS := (sDrop (sSet 3 (mOp2 modD (mBi intD [(mOp2 addD (mOp2 addD (mOp2 addD (mOp2 mulD (mVar 3) (mC (.int 39373))) (mOp2 modD (mBi intD [(mVar 5)]) (mC (.int 2147483399)))) (mOp2 mulD (mC (.int 211)) (mVar 4))) (mC (.int 5)))]) (mC (.int 2147483563)))) [4, 5])
def m__law_bag : MS := (sSeq (sSet 2 (mIf (mTB (mOp2 ltD (mVar 1) (mBi lenD [(mVar 0)]))) (mOp2 ixD (mVar 0) (mVar 1)) (mC (.int 0))))
  (sSeq (sSet 3 (mOp2 addD (mOp2 mulD (mC (.int 7193)) (mVar 1)) (mC (.int 401))))
  (sSeq (sDrop (sFor (.tp [(.nm 4), (.nm 5)]) (mIt itEL (mSlL slL (mVar 0) none (some (mC (.int 50))))) b__law_bag_0) [4, 5])
  (sRet (mLst [(mIf (mTB (mOp2 geD (mBi absD [(mVar 2)]) (mOp2 powD (mC (.int 10)) (mC (.int 18))))) (mBi absD [(mVar 2)]) (mC (.int 0))), (mVar 3)])))))
def Z__law_bag : Fn := runF (fun i => [0, 1].contains i) 2 4 m__law_bag
theorem sc__law_bag : FnScope N__law_bag ["_law_script", "_law_at"] (defScope (top 42)) := ⟨rfl, rfl, rfl, by decide +kernel, rfl, by decide +kernel, by decide +kernel⟩
theorem o__law_bag (F : Fx w K mg) (B : Bx K mg base) : ∃ fd, FunD K "_law_bag" "_law_bag" (defArgs (top 42)) (defBody (top 42)) (defScope (top 42)) (d__law_bag.dvs K) (d__law_bag.kws K) (He.ga K "_law_bag") fd ∧ FO P w K mg base (tb K) 1 (He.ga K "_law_bag") fd ["_law_script", "_law_at"] Z__law_bag 2 := by
  obtain ⟨fd, hf⟩ := fd__law_bag F
  refine ⟨fd, hf, fn_F hf sc__law_bag (fun i => [0, 1].contains i) rfl rfl _ (fun _ _ => rfl) fun cdv A outer s H E hc hci hr => ?_⟩
  have cdE := code_of hf hc hci
  have tk : Takes (cxOf (L2.CX P w) P w K mg base N__law_bag "_law_bag" (defScope (top 42)) (He.ga K "_law_bag") cdv A outer s H E) (fun cls d _ H => E cls d H) := takes_of rfl rfl rfl rfl
  have nd : N__law_bag.Nodup := sc__law_bag.nd
  exact (sss_cons (ss_set (i := 2) rfl nd rfl (by first | exact Or.inl rfl | exact Or.inr rfl) (se_if (sb_cmp op_ltV v_lt (se_var (pv 1)) (se_bi call_lenV b_len rfl (n_len F) boot_len (sa_cons (se_var (pv 0)) sa_nil)) (nomark _)) (se_ix ix_seq v_ix (se_var (pv 0)) (se_var (pv 1)) (fun _ _ => rfl)) se_int))
  (sss_cons (ss_set (i := 3) rfl nd rfl (by first | exact Or.inl rfl | exact Or.inr rfl) (se_op op_addV v_add (se_op op_mul v_mul se_int (se_var (pv 1))) se_int))
  (sss_cons (ss_drop [4, 5] (ss_for (passes_of rfl) rfl (si_enumL rfl (n_enumerate F) (se_slL sl_list sl_L (se_var (pv 0)) spt_none (spt_some se_int))) (sg_tup rfl (sgs_cons (sg_name (i := 4) rfl nd rfl (by first | exact Or.inl rfl | exact Or.inr rfl)) (sgs_cons (sg_name (i := 5) rfl nd rfl (by first | exact Or.inl rfl | exact Or.inr rfl)) sgs_nil))) (sss_drop [4, 5] (sss_one (ss_set (i := 3) rfl nd rfl (by first | exact Or.inl rfl | exact Or.inr rfl) (se_op op_mod v_mod (se_ti call_int1 b_int rfl (n_int F) boot_int (sa_cons (se_op op_addV v_add (se_op op_addV v_add (se_op op_addV v_add (se_op op_mul v_mul (se_var (pv 3)) se_int) (se_op op_mod v_mod (se_ti call_int1 b_int rfl (n_int F) boot_int (sa_cons (se_var (pv 5)) sa_nil)) se_int)) (se_op op_mul v_mul se_int (se_var (pv 4)))) se_int) sa_nil)) se_int))))))
  (sss_one (ss_ret (se_lst (sd_cons (se_if (sb_cmp op_ge v_ge (se_bi call_abs b_abs rfl (n_abs F) boot_abs (sa_cons (se_var (pv 2)) sa_nil)) (se_op op_pow v_pow se_int se_int) (nomark _)) (se_bi call_abs b_abs rfl (n_abs F) boot_abs (sa_cons (se_var (pv 2)) sa_nil)) se_int) (sd_cons (se_var (pv 3)) sd_nil))))))))
theorem G__law_bag (F : Fx w K mg) (B : Bx K mg base) : FnG P w K mg base (tb K) "_law_bag" 1 2 Z__law_bag [] := by
  obtain ⟨fd, hf, h⟩ := o__law_bag (P := P) (base := base) F B
  exact ⟨_, fd, _, [], [], h, g__law_bag F, hf.kp, FunD.bindsN hf fun _ _ _ _ _ _ us hl => match us, hl with | [_, _], _ => rfl, .nil, fun _ => rfl⟩
def N__law_take : List Str := ["_law_bag_here", "_law_many", "_law_digit"]
def m__law_take : MS := (sSeq (sDrop (sIf (mTB (mOp2 gtD (mOp2 ixD (mVar 0) (mC (.int 0))) (mC (.int 0)))) (sSeq (sSet 2 (mOp2 modD (mBi intD [(mOp2 ixD (mVar 0) (mC (.int 0)))]) (mVar 1)))
  (sSeq (sSto 0 (mC (.int 0)) (mOp2 divD (mOp2 ixD (mVar 0) (mC (.int 0))) (mVar 1)))
  (sRet (mVar 2)))) sPass) [2])
  (sSeq (sSto 0 (mC (.int 1)) (mOp2 modD (mBi intD [(mOp2 addD (mOp2 mulD (mOp2 ixD (mVar 0) (mC (.int 1))) (mC (.int 48271))) (mC (.int 1871)))]) (mC (.int 2147483399))))
  (sRet (mOp2 modD (mOp2 divD (mOp2 modD (mBi intD [(mOp2 mulD (mOp2 divD (mOp2 ixD (mVar 0) (mC (.int 1))) (mC (.int 13))) (mC (.int 69621)))]) (mC (.int 2147483477))) (mC (.int 32))) (mVar 1)))))
def Z__law_take : Fn := runF (fun i => [0, 1].contains i) 2 1 m__law_take
theorem sc__law_take : FnScope N__law_take ["_law_bag_here", "_law_many"] (defScope (top 43)) := ⟨rfl, rfl, rfl, by decide +kernel, rfl, by decide +kernel, by decide +kernel⟩
theorem o__law_take (F : Fx w K mg) (B : Bx K mg base) : ∃ fd, FunD K "_law_take" "_law_take" (defArgs (top 43)) (defBody (top 43)) (defScope (top 43)) (d__law_take.dvs K) (d__law_take.kws K) (He.ga K "_law_take") fd ∧ FO P w K mg base (tb K) 1 (He.ga K "_law_take") fd ["_law_bag_here", "_law_many"] Z__law_take 2 := by
  obtain ⟨fd, hf⟩ := fd__law_take F
  refine ⟨fd, hf, fn_F hf sc__law_take (fun i => [0, 1].contains i) rfl rfl _ (fun _ _ => rfl) fun cdv A outer s H E hc hci hr => ?_⟩
  have cdE := code_of hf hc hci
  have tk : Takes (cxOf (L2.CX P w) P w K mg base N__law_take "_law_take" (defScope (top 43)) (He.ga K "_law_take") cdv A outer s H E) (fun cls d _ H => E cls d H) := takes_of rfl rfl rfl rfl
  have nd : N__law_take.Nodup := sc__law_take.nd
  exact (sss_cons (ss_drop [2] (ss_if (sb_cmp op_gtV v_gt (se_ix ix_seq v_ix (se_var (pv 0)) se_int (fun _ _ => rfl)) se_int (nomark _)) (sss_cons (ss_set (i := 2) rfl nd rfl (by first | exact Or.inl rfl | exact Or.inr rfl) (se_op op_mod v_mod (se_ti call_int1 b_int rfl (n_int F) boot_int (sa_cons (se_ix ix_seq v_ix (se_var (pv 0)) se_int (fun _ _ => rfl)) sa_nil)) (se_var (pv 1))))
  (sss_cons (ss_sto (i := 0) (pv 0) se_int (se_op op_fdiv v_div (se_ix ix_seq v_ix (se_var (pv 0)) se_int (fun _ _ => rfl)) (se_var (pv 1))) (fun _ => rfl))
  (sss_one (ss_ret (se_var (pv 2)))))) sss_nil))
  (sss_cons (ss_sto (i := 0) (pv 0) se_int (se_op op_mod v_mod (se_ti call_int1 b_int rfl (n_int F) boot_int (sa_cons (se_op op_addV v_add (se_op op_mul v_mul (se_ix ix_seq v_ix (se_var (pv 0)) se_int (fun _ _ => rfl)) se_int) se_int) sa_nil)) se_int) (fun _ => rfl))
  (sss_one (ss_ret (se_op op_mod v_mod (se_op op_fdiv v_div (se_op op_mod v_mod (se_ti call_int1 b_int rfl (n_int F) boot_int (sa_cons (se_op op_mul v_mul (se_op op_fdiv v_div (se_ix ix_seq v_ix (se_var (pv 0)) se_int (fun _ _ => rfl)) se_int) se_int) sa_nil)) se_int) se_int) (se_var (pv 1)))))))
theorem G__law_take (F : Fx w K mg) (B : Bx K mg base) : FnG P w K mg base (tb K) "_law_take" 1 2 Z__law_take [] := by
  obtain ⟨fd, hf, h⟩ := o__law_take (P := P) (base := base) F B
  exact ⟨_, fd, _, [], [], h, g__law_take F, hf.kp, FunD.bindsN hf fun _ _ _ _ _ _ us hl => match us, hl with | [_, _], _ => rfl, .nil, fun _ => rfl⟩
def N__law_of : List Str := ["_law_bag_here", "_law_some"]
def m__law_of : MS := (sRet (mOp2 ixD (mVar 1) (mCall Z__law_take [.bo, .lk] [] [(mVar 0), (mBi lenD [(mVar 1)])])))
def Z__law_of : Fn := runF (fun i => [0, 1].contains i) 2 0 m__law_of
theorem sc__law_of : FnScope N__law_of ["_law_bag_here", "_law_some"] (defScope (top 44)) := ⟨rfl, rfl, rfl, by decide +kernel, rfl, by decide +kernel, by decide +kernel⟩
theorem o__law_of (F : Fx w K mg) (B : Bx K mg base) : ∃ fd, FunD K "_law_of" "_law_of" (defArgs (top 44)) (defBody (top 44)) (defScope (top 44)) (d__law_of.dvs K) (d__law_of.kws K) (He.ga K "_law_of") fd ∧ FO P w K mg base (tb K) 2 (He.ga K "_law_of") fd ["_law_bag_here", "_law_some"] Z__law_of 2 := by
  obtain ⟨fd, hf⟩ := fd__law_of F
  refine ⟨fd, hf, fn_F hf sc__law_of (fun i => [0, 1].contains i) rfl rfl _ (fun _ _ => rfl) fun cdv A outer s H E hc hci hr => ?_⟩
  have cdE := code_of hf hc hci
  have tk : Takes (cxOf (L2.CX P w) P w K mg base N__law_of "_law_of" (defScope (top 44)) (He.ga K "_law_of") cdv A outer s H E) (fun cls d _ H => E cls d H) := takes_of rfl rfl rfl rfl
  have nd : N__law_of.Nodup := sc__law_of.nd
  exact (sss_one (ss_ret (se_ix ix_seq v_ix (se_var (pv 1)) (se_fn (G__law_take F B) hr tk [.bo, .lk] (sa_cons (se_var (pv 0)) (sa_cons (se_bi call_lenV b_len rfl (n_len F) boot_len (sa_cons (se_var (pv 1)) sa_nil)) sa_nil))) (fun _ _ => rfl))))
theorem G__law_of (F : Fx w K mg) (B : Bx K mg base) : FnG P w K mg base (tb K) "_law_of" 2 2 Z__law_of [] := by
  obtain ⟨fd, hf, h⟩ := o__law_of (P := P) (base := base) F B
  exact ⟨_, fd, _, [], [], h, g__law_of F, hf.kp, FunD.bindsN hf fun _ _ _ _ _ _ us hl => match us, hl with | [_, _], _ => rfl, .nil, fun _ => rfl⟩
def N__law_character : List Str := ["_law_bag_here", "_law_word"]
def m__law_character : MS := (sRet (mCall Z__law_of [.bo, .lk] [] [(mVar 0), (mOp2 getKD (mDct [(.s [76], (mC (.str [97, 98, 120, 122, 43]))), (.s [82], (mC (.str [65, 66, 77, 42]))), (.s [65], (mC (.str [78, 81, 90]))), (.s [68], (mC (.str [48, 49, 55, 57]))), (.s [83], (mC (.str [44, 46, 58]))), (.s [84], (mC (.str [36, 35]))), (.s [78], (mC (.str [32, 33, 45, 40, 93])))]) (mVar 1))]))
def Z__law_character : Fn := runF (fun i => [0, 1].contains i) 2 0 m__law_character
theorem sc__law_character : FnScope N__law_character ["_law_bag_here", "_law_word"] (defScope (top 45)) := ⟨rfl, rfl, rfl, by decide +kernel, rfl, by decide +kernel, by decide +kernel⟩
theorem o__law_character (F : Fx w K mg) (B : Bx K mg base) : ∃ fd, FunD K "_law_character" "_law_character" (defArgs (top 45)) (defBody (top 45)) (defScope (top 45)) (d__law_character.dvs K) (d__law_character.kws K) (He.ga K "_law_character") fd ∧ FO P w K mg base (tb K) 3 (He.ga K "_law_character") fd ["_law_bag_here", "_law_word"] Z__law_character 2 := by
  obtain ⟨fd, hf⟩ := fd__law_character F
  refine ⟨fd, hf, fn_F hf sc__law_character (fun i => [0, 1].contains i) rfl rfl _ (fun _ _ => rfl) fun cdv A outer s H E hc hci hr => ?_⟩
  have cdE := code_of hf hc hci
  have tk : Takes (cxOf (L2.CX P w) P w K mg base N__law_character "_law_character" (defScope (top 45)) (He.ga K "_law_character") cdv A outer s H E) (fun cls d _ H => E cls d H) := takes_of rfl rfl rfl rfl
  have nd : N__law_character.Nodup := sc__law_character.nd
  exact (sss_one (ss_ret (se_fn (G__law_of F B) hr tk [.bo, .lk] (sa_cons (se_var (pv 0)) (sa_cons (se_dget (u1 hr) (se_dct (sdc_cons (k := .s [76]) pe_str (se_str (l := [97, 98, 120, 122, 43])) (sdc_cons (k := .s [82]) pe_str (se_str (l := [65, 66, 77, 42])) (sdc_cons (k := .s [65]) pe_str (se_str (l := [78, 81, 90])) (sdc_cons (k := .s [68]) pe_str (se_str (l := [48, 49, 55, 57])) (sdc_cons (k := .s [83]) pe_str (se_str (l := [44, 46, 58])) (sdc_cons (k := .s [84]) pe_str (se_str (l := [36, 35])) (sdc_cons (k := .s [78]) pe_str (se_str (l := [32, 33, 45, 40, 93])) sdc_nil)))))))) (se_var (pv 1)) (fun _ _ => rfl)) sa_nil)))))
theorem G__law_character (F : Fx w K mg) (B : Bx K mg base) : FnG P w K mg base (tb K) "_law_character" 3 2 Z__law_character [] := by
  obtain ⟨fd, hf, h⟩ := o__law_character (P := P) (base := base) F B
  exact ⟨_, fd, _, [], [], h, g__law_character F, hf.kp, FunD.bindsN hf fun _ _ _ _ _ _ us hl => match us, hl with | [_, _], _ => rfl, .nil, fun _ => rfl⟩
def N__law_text : List Str := ["_law_bag_here", "_law_words", "_law_most", "_law_k"]
def m__law_text : MS := (sRet (mSm1 (fun x y => joinD (.str x) y) (mC (.str [])) (mLc [3] (.nm 3) (mIt itR1 (mCall Z__law_take [.bo, .lk] [] [(mVar 0), (mOp2 addD (mVar 2) (mC (.int 1)))])) mYes (mCall Z__law_character [.bo, .lk] [] [(mVar 0), (mCall Z__law_of [.bo, .lk] [] [(mVar 0), (mVar 1)])]))))
def Z__law_text : Fn := runF (fun i => [0, 1, 2].contains i) 3 1 m__law_text
theorem sc__law_text : FnScope N__law_text ["_law_bag_here", "_law_words", "_law_most"] (defScope (top 46)) := ⟨rfl, rfl, rfl, by decide +kernel, rfl, by decide +kernel, by decide +kernel⟩
theorem o__law_text (F : Fx w K mg) (B : Bx K mg base) : ∃ fd, FunD K "_law_text" "_law_text" (defArgs (top 46)) (defBody (top 46)) (defScope (top 46)) (d__law_text.dvs K) (d__law_text.kws K) (He.ga K "_law_text") fd ∧ FO P w K mg base (tb K) 4 (He.ga K "_law_text") fd ["_law_bag_here", "_law_words", "_law_most"] Z__law_text 3 := by
  obtain ⟨fd, hf⟩ := fd__law_text F
  refine ⟨fd, hf, fn_F hf sc__law_text (fun i => [0, 1, 2].contains i) rfl rfl _ (fun _ _ => rfl) fun cdv A outer s H E hc hci hr => ?_⟩
  have cdE := code_of hf hc hci
  have tk : Takes (cxOf (L2.CX P w) P w K mg base N__law_text "_law_text" (defScope (top 46)) (He.ga K "_law_text") cdv A outer s H E) (fun cls d _ H => E cls d H) := takes_of rfl rfl rfl rfl
  have nd : N__law_text.Nodup := sc__law_text.nd
  exact (sss_one (ss_ret (se_sm1 PySem.F.slot_str_join PySem.F.type_str_join mt_join sm_join (se_str (l := [])) (se_lc (own := [("_law_k", 3)]) rfl nd (si_rng1 rfl (n_range F) (se_fn (G__law_take F B) hr tk [.bo, .lk] (sa_cons (se_var (pv 0)) (sa_cons (se_op op_addV v_add (se_var (pv 2)) se_int) sa_nil)))) (blkOk_by (own := [("_law_k", 3)]) (N := N__law_text) (sc := defScope (top 46)) (by decide +kernel)) (fun _ _ _ _ _ => (sg_name (i := 3) rfl nd rfl (by first | exact Or.inl rfl | exact Or.inr rfl))) (fun _ _ _ _ _ => sts_nil) (fun _ _ _ _ _ => (se_fn (G__law_character F B) hr no_takes [.bo, .lk] (sa_cons (se_var (pv 0)) (sa_cons (se_fn (G__law_of F B) hr no_takes [.bo, .lk] (sa_cons (se_var (pv 0)) (sa_cons (se_var (pv 1)) sa_nil))) sa_nil))))))))
theorem G__law_text (F : Fx w K mg) (B : Bx K mg base) : FnG P w K mg base (tb K) "_law_text" 4 3 Z__law_text [] := by
  obtain ⟨fd, hf, h⟩ := o__law_text (P := P) (base := base) F B
  exact ⟨_, fd, _, [], [], h, g__law_text F, hf.kp, FunD.bindsN hf fun _ _ _ _ _ _ us hl => match us, hl with | [_, _, _], _ => rfl, .nil, fun _ => rfl⟩
def N_first_unknown : List Str := ["text", "unknown", "index", "sign"]
def m_first_unknown : MS := (sSeq (sSet 1 (mLc [2, 3] (.tp [(.nm 2), (.nm 3)]) (mIt itES (mVar 0)) (mTB (mOp2 ninD (mVar 3) (mC (.str c_KNOWN)))) (mVar 2)))
  (sRet (mIf (mTB (mOp2 neD (mVar 1) (mLst []))) (mOp2 ixD (mVar 1) (mC (.int 0))) (mC .non))))
def Z_first_unknown : Fn := runF (fun i => [0].contains i) 1 3 m_first_unknown
theorem sc_first_unknown : FnScope N_first_unknown ["text"] (defScope (top 11)) := ⟨rfl, rfl, rfl, by decide +kernel, rfl, by decide +kernel, by decide +kernel⟩
theorem o_first_unknown (F : Fx w K mg) (B : Bx K mg base) : ∃ fd, FunD K "first_unknown" "first_unknown" (defArgs (top 11)) (defBody (top 11)) (defScope (top 11)) (d_first_unknown.dvs K) (d_first_unknown.kws K) (He.ga K "first_unknown") fd ∧ FO P w K mg base (tb K) 1 (He.ga K "first_unknown") fd ["text"] Z_first_unknown 1 := by
  obtain ⟨fd, hf⟩ := fd_first_unknown F
  refine ⟨fd, hf, fn_F hf sc_first_unknown (fun i => [0].contains i) rfl rfl _ (fun _ _ => rfl) fun cdv A outer s H E hc hci hr => ?_⟩
  have cdE := code_of hf hc hci
  have tk : Takes (cxOf (L2.CX P w) P w K mg base N_first_unknown "first_unknown" (defScope (top 11)) (He.ga K "first_unknown") cdv A outer s H E) (fun cls d _ H => E cls d H) := takes_of rfl rfl rfl rfl
  have nd : N_first_unknown.Nodup := sc_first_unknown.nd
  exact (sss_cons (ss_setLc (i := 1) (own := [("index", 2), ("sign", 3)]) rfl rfl nd rfl rfl (sw_true rfl rfl rfl (by decide +kernel)) (si_enumS rfl (n_enumerate F) (se_var (pv 0))) (blkOk_by (own := [("index", 2), ("sign", 3)]) (N := N_first_unknown) (sc := defScope (top 11)) (by decide +kernel)) (fun _ _ _ _ _ => (sg_tup rfl (sgs_cons (sg_name (i := 2) rfl nd rfl (by first | exact Or.inl rfl | exact Or.inr rfl)) (sgs_cons (sg_name (i := 3) rfl nd rfl (by first | exact Or.inl rfl | exact Or.inr rfl)) sgs_nil)))) (fun _ _ _ _ _ => (sts_one (sb_cmp (op_notInV hr.units) v_notIn (se_var (pv 3)) (se_gstr rfl (v_KNOWN F)) (by with_unfolding_all rfl)))) (fun _ _ _ _ _ => (se_var (pv 2))))
  (sss_one (ss_ret (se_if (sb_cmp (op_neP hr.units) v_ne (se_var (pv 1)) (se_lst sd_nil) (nomark _)) (se_ix ix_seq v_ix (se_var (pv 1)) se_int (fun _ _ => rfl)) se_non))))
theorem G_first_unknown (F : Fx w K mg) (B : Bx K mg base) : FnG P w K mg base (tb K) "first_unknown" 1 1 Z_first_unknown [] := by
  obtain ⟨fd, hf, h⟩ := o_first_unknown (P := P) (base := base) F B
  exact ⟨_, fd, _, [], [], h, g_first_unknown F, hf.kp, FunD.bindsN hf fun _ _ _ _ _ _ us hl => match us, hl with | [_], _ => rfl, .nil, fun _ => rfl⟩
def N_overfull : List Str := ["text", "most", "opened", "index", "character"]
abbrev b_overfull_0 : MS := (sDrop (sIf (mTB (mOp2 inD (mVar 4) (mC (.str c_BEGINS)))) (sSeq (sIf (mTB (mOp2 eqD (mVar 2) (mVar 1))) (sRet (mVar 3)) sPass)
  (sAug 2 addI (mC (.int 1)))) (sIf (mTB (mOp2 eqD (mVar 4) (mC (.str c_END)))) (sSet 2 (mBi max2D [(mC (.int 0)), (mOp2 subD (mVar 2) (mC (.int 1)))])) sPass)) [3, 4])
def m_overfull : MS := (sSeq (sSet 2 (mC (.int 0)))
  (sSeq (sDrop (sFor (.tp [(.nm 3), (.nm 4)]) (mIt itES (mVar 0)) b_overfull_0) [2, 3, 4])
  (sRet (mC .non))))
def Z_overfull : Fn := runF (fun i => [0, 1].contains i) 2 3 m_overfull
theorem sc_overfull : FnScope N_overfull ["text", "most"] (defScope (top 10)) := ⟨rfl, rfl, rfl, by decide +kernel, rfl, by decide +kernel, by decide +kernel⟩
theorem o_overfull (F : Fx w K mg) (B : Bx K mg base) : ∃ fd, FunD K "overfull" "overfull" (defArgs (top 10)) (defBody (top 10)) (defScope (top 10)) (d_overfull.dvs K) (d_overfull.kws K) (He.ga K "overfull") fd ∧ FO P w K mg base (tb K) 1 (He.ga K "overfull") fd ["text", "most"] Z_overfull 2 := by
  obtain ⟨fd, hf⟩ := fd_overfull F
  refine ⟨fd, hf, fn_F hf sc_overfull (fun i => [0, 1].contains i) rfl rfl _ (fun _ _ => rfl) fun cdv A outer s H E hc hci hr => ?_⟩
  have cdE := code_of hf hc hci
  have tk : Takes (cxOf (L2.CX P w) P w K mg base N_overfull "overfull" (defScope (top 10)) (He.ga K "overfull") cdv A outer s H E) (fun cls d _ H => E cls d H) := takes_of rfl rfl rfl rfl
  have nd : N_overfull.Nodup := sc_overfull.nd
  exact (sss_cons (ss_set (i := 2) rfl nd rfl (by first | exact Or.inl rfl | exact Or.inr rfl) se_int)
  (sss_cons (ss_drop [2, 3, 4] (ss_for (passes_of rfl) rfl (si_enumS rfl (n_enumerate F) (se_var (pv 0))) (sg_tup rfl (sgs_cons (sg_name (i := 3) rfl nd rfl (by first | exact Or.inl rfl | exact Or.inr rfl)) (sgs_cons (sg_name (i := 4) rfl nd rfl (by first | exact Or.inl rfl | exact Or.inr rfl)) sgs_nil))) (sss_drop [3, 4] (sss_one (ss_if (sb_cmp (op_inV hr.units) v_in (se_var (pv 4)) (se_gstr rfl (v_BEGINS F)) (by with_unfolding_all rfl)) (sss_cons (ss_if (sb_cmp (op_eqP hr.units) v_eq (se_var (pv 2)) (se_var (pv 1)) (nomark _)) (sss_one (ss_ret (se_var (pv 3)))) sss_nil)
  (sss_one (ss_aug (i := 2) rfl nd rfl (by first | exact Or.inl rfl | exact Or.inr rfl) se_int ip_add ip_addV))) (sss_one (ss_if (sb_cmp (op_eqP hr.units) v_eq (se_var (pv 4)) (se_gstr rfl (v_END F)) (nomark _)) (sss_one (ss_set (i := 2) rfl nd rfl (by first | exact Or.inl rfl | exact Or.inr rfl) (se_bi (call_max2 rfl) b_max2 rfl (n_max F) boot_max (sa_cons se_int (sa_cons (se_op op_sub v_sub (se_var (pv 2)) se_int) sa_nil))))) sss_nil)))))))
  (sss_one (ss_ret se_non))))
theorem G_overfull (F : Fx w K mg) (B : Bx K mg base) : FnG P w K mg base (tb K) "overfull" 1 2 Z_overfull [] := by
  obtain ⟨fd, hf, h⟩ := o_overfull (P := P) (base := base) F B
  exact ⟨_, fd, _, [], [], h, g_overfull F, hf.kp, FunD.bindsN hf fun _ _ _ _ _ _ us hl => match us, hl with | [_, _], _ => rfl, .nil, fun _ => rfl⟩
def N_first_fault : List Str := ["text", "found", "index"]
def m_first_fault : MS := (sSeq (sSet 1 (mLc [2] (.nm 2) (mIt itT (mTup [(mCall Z_first_unknown [] [] [(mVar 0)]), (mCall Z_overfull [] [] [(mVar 0), (mC (.int 20))])])) (mTB (mOp2 isntD (mVar 2) (mC .non))) (mVar 2)))
  (sRet (mIf (mTB (mOp2 neD (mVar 1) (mLst []))) mBad (mC .non))))
def Z_first_fault : Fn := runF (fun i => [0].contains i) 1 2 m_first_fault
theorem sc_first_fault : FnScope N_first_fault ["text"] (defScope (top 12)) := ⟨rfl, rfl, rfl, by decide +kernel, rfl, by decide +kernel, by decide +kernel⟩
theorem o_first_fault (F : Fx w K mg) (B : Bx K mg base) : ∃ fd, FunD K "first_fault" "first_fault" (defArgs (top 12)) (defBody (top 12)) (defScope (top 12)) (d_first_fault.dvs K) (d_first_fault.kws K) (He.ga K "first_fault") fd ∧ FO P w K mg base (tb K) 2 (He.ga K "first_fault") fd ["text"] Z_first_fault 1 := by
  obtain ⟨fd, hf⟩ := fd_first_fault F
  refine ⟨fd, hf, fn_F hf sc_first_fault (fun i => [0].contains i) rfl rfl _ (fun _ _ => rfl) fun cdv A outer s H E hc hci hr => ?_⟩
  have cdE := code_of hf hc hci
  have tk : Takes (cxOf (L2.CX P w) P w K mg base N_first_fault "first_fault" (defScope (top 12)) (He.ga K "first_fault") cdv A outer s H E) (fun cls d _ H => E cls d H) := takes_of rfl rfl rfl rfl
  have nd : N_first_fault.Nodup := sc_first_fault.nd
  exact (sss_cons (ss_setLc (i := 1) (own := [("index", 2)]) rfl rfl nd rfl rfl (sw_true rfl rfl rfl (by decide +kernel)) (si_tup (se_tup (sd_cons (se_fn (G_first_unknown F B) hr tk [] (sa_cons (se_var (pv 0)) sa_nil)) (sd_cons (se_fn (G_overfull F B) hr tk [] (sa_cons (se_var (pv 0)) (sa_cons (se_gint rfl (v_MOST_OPEN F)) sa_nil))) sd_nil)))) (blkOk_by (own := [("index", 2)]) (N := N_first_fault) (sc := defScope (top 12)) (by decide +kernel)) (fun _ _ _ _ _ => (sg_name (i := 2) rfl nd rfl (by first | exact Or.inl rfl | exact Or.inr rfl))) (fun _ _ _ _ _ => (sts_one (sb_cmp op_notN v_notN (se_var (pv 2)) se_non (nomark _)))) (fun _ _ _ _ _ => (se_var (pv 2))))
  (sss_one (ss_ret (se_if (sb_cmp (op_neP hr.units) v_ne (se_var (pv 1)) (se_lst sd_nil) (nomark _)) se_bad se_non))))
theorem G_first_fault (F : Fx w K mg) (B : Bx K mg base) : FnG P w K mg base (tb K) "first_fault" 2 1 Z_first_fault [] := by
  obtain ⟨fd, hf, h⟩ := o_first_fault (P := P) (base := base) F B
  exact ⟨_, fd, _, [], [], h, g_first_fault F, hf.kp, FunD.bindsN hf fun _ _ _ _ _ _ us hl => match us, hl with | [_], _ => rfl, .nil, fun _ => rfl⟩
def N_need_text : List Str := ["text", "known", "strange", "fault", "index", "sign"]
def m_need_text : MS := (sSeq (sIf (mOr (mNot (mTB (mOp1 (isiD .str) (mVar 0)))) (mTB (mOp2 gtD (mBi lenD [(mVar 0)]) (mC (.int 400))))) sBad sPass)
  (sSeq (sSet 2 (mLc [4, 5] (.tp [(.nm 4), (.nm 5)]) (mIt itES (mVar 0)) (mTB (mOp2 ninD (mVar 5) (mVar 1))) (mVar 4)))
  (sSeq (sSet 3 (mIf (mTB (mOp2 neD (mVar 2) (mLst []))) (mCall Z_first_fault [] [] [(mSl slS (mVar 0) none (some (mOp2 ixD (mVar 2) (mC (.int 0)))))]) (mCall Z_first_fault [] [] [(mVar 0)])))
  (sIf (mOr (mTB (mOp2 isntD (mVar 3) (mC .non))) (mTB (mOp2 neD (mVar 2) (mLst [])))) sBad sPass))))
def Z_need_text : Fn := runF (fun i => [0, 1].contains i) 2 4 m_need_text
theorem sc_need_text : FnScope N_need_text ["text", "known"] (defScope (top 13)) := ⟨rfl, rfl, rfl, by decide +kernel, rfl, by decide +kernel, by decide +kernel⟩
theorem o_need_text (F : Fx w K mg) (B : Bx K mg base) : ∃ fd, FunD K "need_text" "need_text" (defArgs (top 13)) (defBody (top 13)) (defScope (top 13)) (d_need_text.dvs K) (d_need_text.kws K) (He.ga K "need_text") fd ∧ FO P w K mg base (tb K) 3 (He.ga K "need_text") fd ["text", "known"] Z_need_text 2 := by
  obtain ⟨fd, hf⟩ := fd_need_text F
  refine ⟨fd, hf, fn_F hf sc_need_text (fun i => [0, 1].contains i) rfl rfl _ (fun _ _ => rfl) fun cdv A outer s H E hc hci hr => ?_⟩
  have cdE := code_of hf hc hci
  have tk : Takes (cxOf (L2.CX P w) P w K mg base N_need_text "need_text" (defScope (top 13)) (He.ga K "need_text") cdv A outer s H E) (fun cls d _ H => E cls d H) := takes_of rfl rfl rfl rfl
  have nd : N_need_text.Nodup := sc_need_text.nd
  exact (sss_cons (ss_if (sw_pt (sw_or (sb_not (sb_val (se_isi (ty := .str) rfl (n_isinstance F) boot_isinstance rfl (n_str F) bt_str (se_var (pv 0))))) (sw_or1 (sb_cmp op_gtV v_gt (se_bi call_lenV b_len rfl (n_len F) boot_len (sa_cons (se_var (pv 0)) sa_nil)) (se_gint rfl (v_MOST_CHARACTERS F)) (nomark _))))) (sss_one ss_bad) sss_nil)
  (sss_cons (ss_setLc (i := 2) (own := [("index", 4), ("sign", 5)]) rfl rfl nd rfl rfl (sw_true rfl rfl rfl (by decide +kernel)) (si_enumS rfl (n_enumerate F) (se_var (pv 0))) (blkOk_by (own := [("index", 4), ("sign", 5)]) (N := N_need_text) (sc := defScope (top 13)) (by decide +kernel)) (fun _ _ _ _ _ => (sg_tup rfl (sgs_cons (sg_name (i := 4) rfl nd rfl (by first | exact Or.inl rfl | exact Or.inr rfl)) (sgs_cons (sg_name (i := 5) rfl nd rfl (by first | exact Or.inl rfl | exact Or.inr rfl)) sgs_nil)))) (fun _ _ _ _ _ => (sts_one (sb_cmp (op_notInV hr.units) v_notIn (se_var (pv 5)) (se_var (pv 1)) (by with_unfolding_all rfl)))) (fun _ _ _ _ _ => (se_var (pv 4))))
  (sss_cons (ss_set (i := 3) rfl nd rfl (by first | exact Or.inl rfl | exact Or.inr rfl) (se_if (sb_cmp (op_neP hr.units) v_ne (se_var (pv 2)) (se_lst sd_nil) (nomark _)) (se_fn (G_first_fault F B) hr tk [] (sa_cons (se_sl sl_str sl_S (se_var (pv 0)) spt_none (spt_some (se_ix ix_seq v_ix (se_var (pv 2)) se_int (fun _ _ => rfl)))) sa_nil)) (se_fn (G_first_fault F B) hr tk [] (sa_cons (se_var (pv 0)) sa_nil))))
  (sss_one (ss_if (sw_pt (sw_or (sb_cmp op_notN v_notN (se_var (pv 3)) se_non (nomark _)) (sw_or1 (sb_cmp (op_neP hr.units) v_ne (se_var (pv 2)) (se_lst sd_nil) (nomark _))))) (sss_one ss_bad) sss_nil)))))
theorem G_need_text (F : Fx w K mg) (B : Bx K mg base) : FnG P w K mg base (tb K) "need_text" 3 2 Z_need_text [] := by
  obtain ⟨fd, hf, h⟩ := o_need_text (P := P) (base := base) F B
  obtain ⟨ds, hv, hb⟩ := FunD.binds1 (ps := ["text", "known"]) hf 2 1 (fun z => by cases z) rfl (fun _ _ _ _ _ _ _ us its h1 h2 => match us, its, h1, h2 with | [_, _], [_], _, _ => ⟨_, rfl, rfl⟩)
  exact ⟨_, fd, _, _, ds, h, g_need_text F, hf.kp, hb, hv, fun H => rfl⟩
def N_need_plain : List Str := ["text"]
def m_need_plain : MS := (sExp (mCall Z_need_text [] [] [(mVar 0), (mC (.str c_PLAIN_CHARACTERS))]))
def Z_need_plain : Fn := runF (fun i => [0].contains i) 1 0 m_need_plain
theorem sc_need_plain : FnScope N_need_plain ["text"] (defScope (top 27)) := ⟨rfl, rfl, rfl, by decide +kernel, rfl, by decide +kernel, by decide +kernel⟩
theorem o_need_plain (F : Fx w K mg) (B : Bx K mg base) : ∃ fd, FunD K "need_plain" "need_plain" (defArgs (top 27)) (defBody (top 27)) (defScope (top 27)) (d_need_plain.dvs K) (d_need_plain.kws K) (He.ga K "need_plain") fd ∧ FO P w K mg base (tb K) 4 (He.ga K "need_plain") fd ["text"] Z_need_plain 1 := by
  obtain ⟨fd, hf⟩ := fd_need_plain F
  refine ⟨fd, hf, fn_F hf sc_need_plain (fun i => [0].contains i) rfl rfl _ (fun _ _ => rfl) fun cdv A outer s H E hc hci hr => ?_⟩
  have cdE := code_of hf hc hci
  have tk : Takes (cxOf (L2.CX P w) P w K mg base N_need_plain "need_plain" (defScope (top 27)) (He.ga K "need_plain") cdv A outer s H E) (fun cls d _ H => E cls d H) := takes_of rfl rfl rfl rfl
  have nd : N_need_plain.Nodup := sc_need_plain.nd
  exact (sss_one (ss_exp (se_fn (G_need_text F B) hr tk [] (sa_cons (se_var (pv 0)) (sa_cons (se_gstr rfl (v_PLAIN_CHARACTERS F)) sa_nil)))))
theorem G_need_plain (F : Fx w K mg) (B : Bx K mg base) : FnG P w K mg base (tb K) "need_plain" 4 1 Z_need_plain [] := by
  obtain ⟨fd, hf, h⟩ := o_need_plain (P := P) (base := base) F B
  exact ⟨_, fd, _, [], [], h, g_need_plain F, hf.kp, FunD.bindsN hf fun _ _ _ _ _ _ us hl => match us, hl with | [_], _ => rfl, .nil, fun _ => rfl⟩
def N_head_of : List Str := ["words", "ahead", "word"]
def m_head_of : MS := (sSeq (sIf (mTB (mOp2 ninD (mC (.str [68])) (mVar 0))) (sRet (mC (.str []))) sPass)
  (sSeq (sSet 1 (mSl slS (mVar 0) none (some (mSm1 findD (mVar 0) (mC (.str [68]))))))
  (sSeq (sIf (mTB (mOp2 eqD (mVar 1) (mC (.str [])))) (sRet (mC (.str [48]))) sPass)
  (sRet (mIf (mTB (mBi allD [(mLc [2] (.nm 2) (mIt itS (mVar 1)) mYes (mOp2 eqD (mVar 2) (mC (.str [84]))))])) (mC (.str [35, 48])) (mC (.str [32, 48])))))))
def Z_head_of : Fn := runF (fun i => [0].contains i) 1 2 m_head_of
theorem sc_head_of : FnScope N_head_of ["words"] (defScope (top 35)) := ⟨rfl, rfl, rfl, by decide +kernel, rfl, by decide +kernel, by decide +kernel⟩
theorem o_head_of (F : Fx w K mg) (B : Bx K mg base) : ∃ fd, FunD K "head_of" "head_of" (defArgs (top 35)) (defBody (top 35)) (defScope (top 35)) (d_head_of.dvs K) (d_head_of.kws K) (He.ga K "head_of") fd ∧ FO P w K mg base (tb K) 1 (He.ga K "head_of") fd ["words"] Z_head_of 1 := by
  obtain ⟨fd, hf⟩ := fd_head_of F
  refine ⟨fd, hf, fn_F hf sc_head_of (fun i => [0].contains i) rfl rfl _ (fun _ _ => rfl) fun cdv A outer s H E hc hci hr => ?_⟩
  have cdE := code_of hf hc hci
  have tk : Takes (cxOf (L2.CX P w) P w K mg base N_head_of "head_of" (defScope (top 35)) (He.ga K "head_of") cdv A outer s H E) (fun cls d _ H => E cls d H) := takes_of rfl rfl rfl rfl
  have nd : N_head_of.Nodup := sc_head_of.nd
  exact (sss_cons (ss_if (sb_cmp (op_notInV hr.units) v_notIn (se_str (l := [68])) (se_var (pv 0)) (by with_unfolding_all rfl)) (sss_one (ss_ret (se_str (l := [])))) sss_nil)
  (sss_cons (ss_set (i := 1) rfl nd rfl (by first | exact Or.inl rfl | exact Or.inr rfl) (se_sl sl_str sl_S (se_var (pv 0)) spt_none (spt_some (se_sm1 PySem.F.slot_str_find PySem.F.type_str_find mt_find sm_find (se_var (pv 0)) (se_str (l := [68]))))))
  (sss_cons (ss_if (sb_cmp (op_eqP hr.units) v_eq (se_var (pv 1)) (se_str (l := [])) (nomark _)) (sss_one (ss_ret (se_str (l := [48])))) sss_nil)
  (sss_one (ss_ret (se_if (sb_val (se_bi (cr_all rfl) b_all rfl (n_all F) boot_allF (sa_cons (se_lc (own := [("word", 2)]) rfl nd (si_str (se_var (pv 1))) (blkOk_by (own := [("word", 2)]) (N := N_head_of) (sc := defScope (top 35)) (by decide +kernel)) (fun _ _ _ _ _ => (sg_name (i := 2) rfl nd rfl (by first | exact Or.inl rfl | exact Or.inr rfl))) (fun _ _ _ _ _ => sts_nil) (fun _ _ _ _ _ => (se_cmp (op_eqP hr.units) v_eq (se_var (pv 2)) (se_str (l := [84])) (nomark _)))) sa_nil))) (se_str (l := [35, 48])) (se_str (l := [32, 48]))))))))
theorem G_head_of (F : Fx w K mg) (B : Bx K mg base) : FnG P w K mg base (tb K) "head_of" 1 1 Z_head_of [] := by
  obtain ⟨fd, hf, h⟩ := o_head_of (P := P) (base := base) F B
  exact ⟨_, fd, _, [], [], h, g_head_of F, hf.kp, FunD.bindsN hf fun _ _ _ _ _ _ us hl => match us, hl with | [_], _ => rfl, .nil, fun _ => rfl⟩
def N_next_state : List Str := ["state", "word", "strong", "tail"]
def m_next_state : MS := (sSeq (sUnp (.tp [(.nm 2), (.nm 3)]) (mVar 0))
  (sSeq (sMatch (mVar 1) [((some [[76], [82], [65]]), (sRet (mTup [(mVar 1), (mC (.str []))]))), ((some [[68]]), (sRet (mTup [(mVar 2), (mC (.str c_DIGIT))]))), ((some [[83]]), (sRet (mTup [(mVar 2), (mIf (mTB (mOp2 eqD (mVar 3) (mC (.str c_DIGIT)))) (mC (.str [115, 105, 103, 110])) (mC (.str [])))]))), ((some [[84]]), (sRet (mTup [(mVar 2), (mIf (mAnd (mTB (mOp2 inD (mVar 3) (mTup [(mC (.str c_DIGIT)), (mC (.str [106, 111, 105, 110, 101, 100]))]))) (mTB (mOp2 neD (mVar 2) (mC (.str [65]))))) (mC (.str [106, 111, 105, 110, 101, 100])) (mC (.str [114, 117, 110])))])))])
  (sRet (mTup [(mVar 2), (mC (.str []))]))))
def Z_next_state : Fn := runF (fun i => [0, 1].contains i) 2 2 m_next_state
theorem sc_next_state : FnScope N_next_state ["state", "word"] (defScope (top 23)) := ⟨rfl, rfl, rfl, by decide +kernel, rfl, by decide +kernel, by decide +kernel⟩
theorem o_next_state (F : Fx w K mg) (B : Bx K mg base) : ∃ fd, FunD K "next_state" "next_state" (defArgs (top 23)) (defBody (top 23)) (defScope (top 23)) (d_next_state.dvs K) (d_next_state.kws K) (He.ga K "next_state") fd ∧ FO P w K mg base (tb K) 1 (He.ga K "next_state") fd ["state", "word"] Z_next_state 2 := by
  obtain ⟨fd, hf⟩ := fd_next_state F
  refine ⟨fd, hf, fn_F hf sc_next_state (fun i => [0, 1].contains i) rfl rfl _ (fun _ _ => rfl) fun cdv A outer s H E hc hci hr => ?_⟩
  have cdE := code_of hf hc hci
  have tk : Takes (cxOf (L2.CX P w) P w K mg base N_next_state "next_state" (defScope (top 23)) (He.ga K "next_state") cdv A outer s H E) (fun cls d _ H => E cls d H) := takes_of rfl rfl rfl rfl
  have nd : N_next_state.Nodup := sc_next_state.nd
  exact (sss_cons (ss_unp (se_var (pv 0)) (sg_tup rfl (sgs_cons (sg_name (i := 2) rfl nd rfl (by first | exact Or.inl rfl | exact Or.inr rfl)) (sgs_cons (sg_name (i := 3) rfl nd rfl (by first | exact Or.inl rfl | exact Or.inr rfl)) sgs_nil))))
  (sss_cons (ss_match (se_var (pv 1)) (sms_cons (ppt_or (ppts_cons (ppt_str (l := [76])) (ppts_cons (ppt_str (l := [82])) (ppts_cons (ppt_str (l := [65])) ppts_nil)))) (sss_one (ss_ret (se_tup (sd_cons (se_var (pv 1)) (sd_cons (se_str (l := [])) sd_nil))))) (sms_cons (ppt_str (l := [68])) (sss_one (ss_ret (se_tup (sd_cons (se_var (pv 2)) (sd_cons (se_gstr rfl (v_DIGIT F)) sd_nil))))) (sms_cons (ppt_str (l := [83])) (sss_one (ss_ret (se_tup (sd_cons (se_var (pv 2)) (sd_cons (se_if (sb_cmp (op_eqP hr.units) v_eq (se_var (pv 3)) (se_gstr rfl (v_DIGIT F)) (nomark _)) (se_str (l := [115, 105, 103, 110])) (se_str (l := []))) sd_nil))))) (sms_cons (ppt_str (l := [84])) (sss_one (ss_ret (se_tup (sd_cons (se_var (pv 2)) (sd_cons (se_if (sw_pt (sw_and (sb_cmp (op_inV hr.units) v_in (se_var (pv 3)) (se_tup (sd_cons (se_gstr rfl (v_DIGIT F)) (sd_cons (se_str (l := [106, 111, 105, 110, 101, 100])) sd_nil))) (by with_unfolding_all rfl)) (sw_and1 (sb_cmp (op_neP hr.units) v_ne (se_var (pv 2)) (se_str (l := [65])) (nomark _))))) (se_str (l := [106, 111, 105, 110, 101, 100])) (se_str (l := [114, 117, 110]))) sd_nil))))) sms_nil)))))
  (sss_one (ss_ret (se_tup (sd_cons (se_var (pv 2)) (sd_cons (se_str (l := [])) sd_nil)))))))
theorem G_next_state (F : Fx w K mg) (B : Bx K mg base) : FnG P w K mg base (tb K) "next_state" 1 2 Z_next_state [] := by
  obtain ⟨fd, hf, h⟩ := o_next_state (P := P) (base := base) F B
  exact ⟨_, fd, _, [], [], h, g_next_state F, hf.kp, FunD.bindsN hf fun _ _ _ _ _ _ us hl => match us, hl with | [_, _], _ => rfl, .nil, fun _ => rfl⟩
def N_read_in : List Str := ["state", "words", "word"]
abbrev b_read_in_0 : MS := (sDrop (sSet 0 (mCall Z_next_state [] [] [(mVar 0), (mVar 2)])) [2])
def m_read_in : MS := (sSeq (sDrop (sFor (.nm 2) (mIt itS (mVar 1)) b_read_in_0) [2])
  (sRet (mVar 0)))
def Z_read_in : Fn := runF (fun i => [1].contains i) 2 1 m_read_in
theorem sc_read_in : FnScope N_read_in ["state", "words"] (defScope (top 30)) := ⟨rfl, rfl, rfl, by decide +kernel, rfl, by decide +kernel, by decide +kernel⟩
theorem o_read_in (F : Fx w K mg) (B : Bx K mg base) : ∃ fd, FunD K "read_in" "read_in" (defArgs (top 30)) (defBody (top 30)) (defScope (top 30)) (d_read_in.dvs K) (d_read_in.kws K) (He.ga K "read_in") fd ∧ FO P w K mg base (tb K) 2 (He.ga K "read_in") fd ["state", "words"] Z_read_in 2 := by
  obtain ⟨fd, hf⟩ := fd_read_in F
  refine ⟨fd, hf, fn_F hf sc_read_in (fun i => [1].contains i) rfl rfl _ (fun _ _ => rfl) fun cdv A outer s H E hc hci hr => ?_⟩
  have cdE := code_of hf hc hci
  have tk : Takes (cxOf (L2.CX P w) P w K mg base N_read_in "read_in" (defScope (top 30)) (He.ga K "read_in") cdv A outer s H E) (fun cls d _ H => E cls d H) := takes_of rfl rfl rfl rfl
  have nd : N_read_in.Nodup := sc_read_in.nd
  exact (sss_cons (ss_drop [2] (ss_for (passes_of rfl) rfl (si_str (se_var (pv 1))) (sg_name (i := 2) rfl nd rfl (by first | exact Or.inl rfl | exact Or.inr rfl)) (sss_drop [2] (sss_one (ss_set (i := 0) rfl nd rfl (by first | exact Or.inl rfl | exact Or.inr rfl) (se_fn (G_next_state F B) hr tk [] (sa_cons (se_var (pv 0)) (sa_cons (se_var (pv 2)) sa_nil))))))))
  (sss_one (ss_ret (se_var (pv 0)))))
theorem G_read_in (F : Fx w K mg) (B : Bx K mg base) : FnG P w K mg base (tb K) "read_in" 2 2 Z_read_in [] := by
  obtain ⟨fd, hf, h⟩ := o_read_in (P := P) (base := base) F B
  exact ⟨_, fd, _, [], [], h, g_read_in F, hf.kp, FunD.bindsN hf fun _ _ _ _ _ _ us hl => match us, hl with | [_, _], _ => rfl, .nil, fun _ => rfl⟩
def N_least_weak : List Str := ["words", "behind", "word"]
def m_least_weak : MS := (sSeq (sDrop (sIf (mTB (mOp2 inD (mC (.str [68])) (mVar 0))) (sSeq (sSet 1 (mSl slS (mVar 0) (some (mOp2 addD (mSm1 rfindD (mVar 0) (mC (.str [68]))) (mC (.int 1)))) none))
  (sRet (mOp2 addD (mCall Z_head_of [] [] [(mVar 0)]) (mOp1 (tabD c_BEHIND_DIGIT) (mOp2 ixD (mCall Z_read_in [] [] [(mTup [(mC (.str [76])), (mC (.str c_DIGIT))]), (mVar 1)]) (mC (.int 1))))))) sPass) [1])
  (sSeq (sIf (mTB (mOp2 inD (mVar 0) (mTup [(mC (.str [])), (mC (.str [83]))]))) (sRet (mIf (mTB (mOp2 eqD (mVar 0) (mC (.str [])))) (mC (.str [])) (mC (.str [44])))) sPass)
  (sSeq (sIf (mTB (mBi allD [(mLc [2] (.nm 2) (mIt itS (mVar 0)) mYes (mOp2 eqD (mVar 2) (mC (.str [84]))))])) (sRet (mC (.str [35]))) sPass)
  (sRet (mIf (mTB (mOp2 eqD (mOp2 ixD (mVar 0) (mOp1 negD (mC (.int 1)))) (mC (.str [84])))) (mC (.str [32, 35])) (mC (.str [32])))))))
def Z_least_weak : Fn := runF (fun i => [0].contains i) 1 2 m_least_weak
theorem sc_least_weak : FnScope N_least_weak ["words"] (defScope (top 36)) := ⟨rfl, rfl, rfl, by decide +kernel, rfl, by decide +kernel, by decide +kernel⟩
theorem o_least_weak (F : Fx w K mg) (B : Bx K mg base) : ∃ fd, FunD K "least_weak" "least_weak" (defArgs (top 36)) (defBody (top 36)) (defScope (top 36)) (d_least_weak.dvs K) (d_least_weak.kws K) (He.ga K "least_weak") fd ∧ FO P w K mg base (tb K) 3 (He.ga K "least_weak") fd ["words"] Z_least_weak 1 := by
  obtain ⟨fd, hf⟩ := fd_least_weak F
  refine ⟨fd, hf, fn_F hf sc_least_weak (fun i => [0].contains i) rfl rfl _ (fun _ _ => rfl) fun cdv A outer s H E hc hci hr => ?_⟩
  have cdE := code_of hf hc hci
  have tk : Takes (cxOf (L2.CX P w) P w K mg base N_least_weak "least_weak" (defScope (top 36)) (He.ga K "least_weak") cdv A outer s H E) (fun cls d _ H => E cls d H) := takes_of rfl rfl rfl rfl
  have nd : N_least_weak.Nodup := sc_least_weak.nd
  exact (sss_cons (ss_drop [1] (ss_if (sb_cmp (op_inV hr.units) v_in (se_str (l := [68])) (se_var (pv 0)) (by with_unfolding_all rfl)) (sss_cons (ss_set (i := 1) rfl nd rfl (by first | exact Or.inl rfl | exact Or.inr rfl) (se_sl sl_str sl_S (se_var (pv 0)) (spt_some (se_op op_addV v_add (se_sm1 PySem.F.slot_str_rfind PySem.F.type_str_rfind mt_rfind sm_rfind (se_var (pv 0)) (se_str (l := [68]))) se_int)) spt_none))
  (sss_one (ss_ret (se_op op_addV v_add (se_fn (G_head_of F B) hr tk [] (sa_cons (se_var (pv 0)) sa_nil)) (se_tab (pe_glob rfl (g_BEHIND_DIGIT F) rfl) (t_BEHIND_DIGIT F rfl rfl) (se_ix ix_seq v_ix (se_fn (G_read_in F B) hr tk [] (sa_cons (se_tup (sd_cons (se_str (l := [76])) (sd_cons (se_gstr rfl (v_DIGIT F)) sd_nil))) (sa_cons (se_var (pv 1)) sa_nil))) se_int (fun _ _ => rfl)) (fun _ _ => rfl)))))) sss_nil))
  (sss_cons (ss_if (sb_cmp (op_inV hr.units) v_in (se_var (pv 0)) (se_tup (sd_cons (se_str (l := [])) (sd_cons (se_str (l := [83])) sd_nil))) (by with_unfolding_all rfl)) (sss_one (ss_ret (se_if (sb_cmp (op_eqP hr.units) v_eq (se_var (pv 0)) (se_str (l := [])) (nomark _)) (se_str (l := [])) (se_str (l := [44]))))) sss_nil)
  (sss_cons (ss_if (sb_val (se_bi (cr_all rfl) b_all rfl (n_all F) boot_allF (sa_cons (se_lc (own := [("word", 2)]) rfl nd (si_str (se_var (pv 0))) (blkOk_by (own := [("word", 2)]) (N := N_least_weak) (sc := defScope (top 36)) (by decide +kernel)) (fun _ _ _ _ _ => (sg_name (i := 2) rfl nd rfl (by first | exact Or.inl rfl | exact Or.inr rfl))) (fun _ _ _ _ _ => sts_nil) (fun _ _ _ _ _ => (se_cmp (op_eqP hr.units) v_eq (se_var (pv 2)) (se_str (l := [84])) (nomark _)))) sa_nil))) (sss_one (ss_ret (se_str (l := [35])))) sss_nil)
  (sss_one (ss_ret (se_if (sb_cmp (op_eqP hr.units) v_eq (se_ix ix_seq v_ix (se_var (pv 0)) (se_un un_neg v_neg se_int) (fun _ _ => rfl)) (se_str (l := [84])) (nomark _)) (se_str (l := [32, 35])) (se_str (l := [32]))))))))
theorem G_least_weak (F : Fx w K mg) (B : Bx K mg base) : FnG P w K mg base (tb K) "least_weak" 3 1 Z_least_weak [] := by
  obtain ⟨fd, hf, h⟩ := o_least_weak (P := P) (base := base) F B
  exact ⟨_, fd, _, [], [], h, g_least_weak F, hf.kp, FunD.bindsN hf fun _ _ _ _ _ _ us hl => match us, hl with | [_], _ => rfl, .nil, fun _ => rfl⟩
def N_least_of : List Str := ["words", "strong", "first", "last", "letters", "tail", "place", "word"]
def m_least_of : MS := (sSeq (sSet 1 (mLc [6, 7] (.tp [(.nm 6), (.nm 7)]) (mIt itES (mVar 0)) (mTB (mOp2 inD (mVar 7) (mC (.str c_STRONG)))) (mVar 6)))
  (sSeq (sIf (mTB (mOp2 eqD (mVar 1) (mLst []))) (sRet (mCall Z_least_weak [] [] [(mVar 0)])) sPass)
  (sSeq (sPar [2, 3] [(mOp2 ixD (mVar 0) (mOp2 ixD (mVar 1) (mC (.int 0)))), (mOp2 ixD (mVar 0) (mOp2 ixD (mVar 1) (mOp1 negD (mC (.int 1)))))])
  (sSeq (sSet 4 (mOp1 (tabD c_LEAST_CHARACTERS) (mVar 3)))
  (sSeq (sIf (mTB (mOp2 neD (mOp2 eqD (mVar 2) (mC (.str [76]))) (mOp2 eqD (mVar 3) (mC (.str [76]))))) (sSet 4 (mOp2 addD (mOp1 (tabD c_LEAST_CHARACTERS) (mIf (mTB (mOp2 eqD (mVar 2) (mC (.str [76])))) (mC (.str [76])) (mC (.str [82])))) (mVar 4))) sPass)
  (sSeq (sSet 5 (mOp2 ixD (mCall Z_read_in [] [] [(mTup [(mVar 3), (mC (.str []))]), (mSl slS (mVar 0) (some (mOp2 addD (mOp2 ixD (mVar 1) (mOp1 negD (mC (.int 1)))) (mC (.int 1)))) none)]) (mC (.int 1))))
  (sRet (mOp2 addD (mOp2 addD (mCall Z_head_of [] [] [(mSl slS (mVar 0) none (some (mOp2 ixD (mVar 1) (mC (.int 0)))))]) (mVar 4)) (mOp1 (tabD c_ENDINGS) (mVar 5))))))))))
def Z_least_of : Fn := runF (fun i => [0].contains i) 1 7 m_least_of
theorem sc_least_of : FnScope N_least_of ["words"] (defScope (top 37)) := ⟨rfl, rfl, rfl, by decide +kernel, rfl, by decide +kernel, by decide +kernel⟩
theorem o_least_of (F : Fx w K mg) (B : Bx K mg base) : ∃ fd, FunD K "least_of" "least_of" (defArgs (top 37)) (defBody (top 37)) (defScope (top 37)) (d_least_of.dvs K) (d_least_of.kws K) (He.ga K "least_of") fd ∧ FO P w K mg base (tb K) 4 (He.ga K "least_of") fd ["words"] Z_least_of 1 := by
  obtain ⟨fd, hf⟩ := fd_least_of F
  refine ⟨fd, hf, fn_F hf sc_least_of (fun i => [0].contains i) rfl rfl _ (fun _ _ => rfl) fun cdv A outer s H E hc hci hr => ?_⟩
  have cdE := code_of hf hc hci
  have tk : Takes (cxOf (L2.CX P w) P w K mg base N_least_of "least_of" (defScope (top 37)) (He.ga K "least_of") cdv A outer s H E) (fun cls d _ H => E cls d H) := takes_of rfl rfl rfl rfl
  have nd : N_least_of.Nodup := sc_least_of.nd
  exact (sss_cons (ss_setLc (i := 1) (own := [("place", 6), ("word", 7)]) rfl rfl nd rfl rfl (sw_true rfl rfl rfl (by decide +kernel)) (si_enumS rfl (n_enumerate F) (se_var (pv 0))) (blkOk_by (own := [("place", 6), ("word", 7)]) (N := N_least_of) (sc := defScope (top 37)) (by decide +kernel)) (fun _ _ _ _ _ => (sg_tup rfl (sgs_cons (sg_name (i := 6) rfl nd rfl (by first | exact Or.inl rfl | exact Or.inr rfl)) (sgs_cons (sg_name (i := 7) rfl nd rfl (by first | exact Or.inl rfl | exact Or.inr rfl)) sgs_nil)))) (fun _ _ _ _ _ => (sts_one (sb_cmp (op_inV hr.units) v_in (se_var (pv 7)) (se_gstr rfl (v_STRONG F)) (by with_unfolding_all rfl)))) (fun _ _ _ _ _ => (se_var (pv 6))))
  (sss_cons (ss_if (sb_cmp (op_eqP hr.units) v_eq (se_var (pv 1)) (se_lst sd_nil) (nomark _)) (sss_one (ss_ret (se_fn (G_least_weak F B) hr tk [] (sa_cons (se_var (pv 0)) sa_nil)))) sss_nil)
  (sss_cons (ss_par (i := 2) (j := 3) rfl rfl rfl nd rfl rfl (by decide) rfl rfl (so_cons (se_ix ix_seq v_ix (se_var (pv 0)) (se_ix ix_seq v_ix (se_var (pv 1)) se_int (fun _ _ => rfl)) (fun _ _ => rfl)) (so_cons (se_ix ix_seq v_ix (se_var (pv 0)) (se_ix ix_seq v_ix (se_var (pv 1)) (se_un un_neg v_neg se_int) (fun _ _ => rfl)) (fun _ _ => rfl)) so_nil)) (by rfl))
  (sss_cons (ss_set (i := 4) rfl nd rfl (by first | exact Or.inl rfl | exact Or.inr rfl) (se_tab (pe_glob rfl (g_LEAST_CHARACTERS F) rfl) (t_LEAST_CHARACTERS F rfl rfl) (se_var (pv 3)) (fun _ _ => rfl)))
  (sss_cons (ss_if (sb_cmp (op_neP hr.units) v_ne (se_cmp (op_eqP hr.units) v_eq (se_var (pv 2)) (se_str (l := [76])) (nomark _)) (se_cmp (op_eqP hr.units) v_eq (se_var (pv 3)) (se_str (l := [76])) (nomark _)) (nomark _)) (sss_one (ss_set (i := 4) rfl nd rfl (by first | exact Or.inl rfl | exact Or.inr rfl) (se_op op_addV v_add (se_tab (pe_glob rfl (g_LEAST_CHARACTERS F) rfl) (t_LEAST_CHARACTERS F rfl rfl) (se_if (sb_cmp (op_eqP hr.units) v_eq (se_var (pv 2)) (se_str (l := [76])) (nomark _)) (se_str (l := [76])) (se_str (l := [82]))) (fun _ _ => rfl)) (se_var (pv 4))))) sss_nil)
  (sss_cons (ss_set (i := 5) rfl nd rfl (by first | exact Or.inl rfl | exact Or.inr rfl) (se_ix ix_seq v_ix (se_fn (G_read_in F B) hr tk [] (sa_cons (se_tup (sd_cons (se_var (pv 3)) (sd_cons (se_str (l := [])) sd_nil))) (sa_cons (se_sl sl_str sl_S (se_var (pv 0)) (spt_some (se_op op_addV v_add (se_ix ix_seq v_ix (se_var (pv 1)) (se_un un_neg v_neg se_int) (fun _ _ => rfl)) se_int)) spt_none) sa_nil))) se_int (fun _ _ => rfl)))
  (sss_one (ss_ret (se_op op_addV v_add (se_op op_addV v_add (se_fn (G_head_of F B) hr tk [] (sa_cons (se_sl sl_str sl_S (se_var (pv 0)) spt_none (spt_some (se_ix ix_seq v_ix (se_var (pv 1)) se_int (fun _ _ => rfl)))) sa_nil)) (se_var (pv 4))) (se_tab (pe_glob rfl (g_ENDINGS F) rfl) (t_ENDINGS F rfl rfl) (se_var (pv 5)) (fun _ _ => rfl)))))))))))
theorem G_least_of (F : Fx w K mg) (B : Bx K mg base) : FnG P w K mg base (tb K) "least_of" 4 1 Z_least_of [] := by
  obtain ⟨fd, hf, h⟩ := o_least_of (P := P) (base := base) F B
  exact ⟨_, fd, _, [], [], h, g_least_of F, hf.kp, FunD.bindsN hf fun _ _ _ _ _ _ us hl => match us, hl with | [_], _ => rfl, .nil, fun _ => rfl⟩
def N_words_of : List Str := ["text", "character"]
def m_words_of : MS := (sRet (mSm1 (fun x y => joinD (.str x) y) (mC (.str [])) (mLc [1] (.nm 1) (mIt itS (mVar 0)) mYes (mOp1 (tabD c_KINDS) (mVar 1)))))
def Z_words_of : Fn := runF (fun i => [0].contains i) 1 1 m_words_of
theorem sc_words_of : FnScope N_words_of ["text"] (defScope (top 29)) := ⟨rfl, rfl, rfl, by decide +kernel, rfl, by decide +kernel, by decide +kernel⟩
theorem o_words_of (F : Fx w K mg) (B : Bx K mg base) : ∃ fd, FunD K "words_of" "words_of" (defArgs (top 29)) (defBody (top 29)) (defScope (top 29)) (d_words_of.dvs K) (d_words_of.kws K) (He.ga K "words_of") fd ∧ FO P w K mg base (tb K) 1 (He.ga K "words_of") fd ["text"] Z_words_of 1 := by
  obtain ⟨fd, hf⟩ := fd_words_of F
  refine ⟨fd, hf, fn_F hf sc_words_of (fun i => [0].contains i) rfl rfl _ (fun _ _ => rfl) fun cdv A outer s H E hc hci hr => ?_⟩
  have cdE := code_of hf hc hci
  have tk : Takes (cxOf (L2.CX P w) P w K mg base N_words_of "words_of" (defScope (top 29)) (He.ga K "words_of") cdv A outer s H E) (fun cls d _ H => E cls d H) := takes_of rfl rfl rfl rfl
  have nd : N_words_of.Nodup := sc_words_of.nd
  exact (sss_one (ss_ret (se_sm1 PySem.F.slot_str_join PySem.F.type_str_join mt_join sm_join (se_str (l := [])) (se_lc (own := [("character", 1)]) rfl nd (si_str (se_var (pv 0))) (blkOk_by (own := [("character", 1)]) (N := N_words_of) (sc := defScope (top 29)) (by decide +kernel)) (fun _ _ _ _ _ => (sg_name (i := 1) rfl nd rfl (by first | exact Or.inl rfl | exact Or.inr rfl))) (fun _ _ _ _ _ => sts_nil) (fun _ _ _ _ _ => (se_tab (pe_glob rfl (g_KINDS F) rfl) (t_KINDS F rfl rfl) (se_var (pv 1)) (fun _ _ => rfl)))))))
theorem G_words_of (F : Fx w K mg) (B : Bx K mg base) : FnG P w K mg base (tb K) "words_of" 1 1 Z_words_of [] := by
  obtain ⟨fd, hf, h⟩ := o_words_of (P := P) (base := base) F B
  exact ⟨_, fd, _, [], [], h, g_words_of F, hf.kp, FunD.bindsN hf fun _ _ _ _ _ _ us hl => match us, hl with | [_], _ => rfl, .nil, fun _ => rfl⟩
def N_least : List Str := ["text"]
def m_least : MS := (sSeq (sExp (mCall Z_need_plain [] [] [(mVar 0)]))
  (sRet (mCall Z_least_of [] [] [(mCall Z_words_of [] [] [(mVar 0)])])))
def Z_least : Fn := runF (fun i => [0].contains i) 1 0 m_least
theorem sc_least : FnScope N_least ["text"] (defScope (top 39)) := ⟨rfl, rfl, rfl, by decide +kernel, rfl, by decide +kernel, by decide +kernel⟩
theorem o_least (F : Fx w K mg) (B : Bx K mg base) : ∃ fd, FunD K "least" "least" (defArgs (top 39)) (defBody (top 39)) (defScope (top 39)) (d_least.dvs K) (d_least.kws K) (He.ga K "least") fd ∧ FO P w K mg base (tb K) 5 (He.ga K "least") fd ["text"] Z_least 1 := by
  obtain ⟨fd, hf⟩ := fd_least F
  refine ⟨fd, hf, fn_F hf sc_least (fun i => [0].contains i) rfl rfl _ (fun _ _ => rfl) fun cdv A outer s H E hc hci hr => ?_⟩
  have cdE := code_of hf hc hci
  have tk : Takes (cxOf (L2.CX P w) P w K mg base N_least "least" (defScope (top 39)) (He.ga K "least") cdv A outer s H E) (fun cls d _ H => E cls d H) := takes_of rfl rfl rfl rfl
  have nd : N_least.Nodup := sc_least.nd
  exact (sss_cons (ss_exp (se_fn (G_need_plain F B) hr tk [] (sa_cons (se_var (pv 0)) sa_nil)))
  (sss_one (ss_ret (se_fn (G_least_of F B) hr tk [] (sa_cons (se_fn (G_words_of F B) hr tk [] (sa_cons (se_var (pv 0)) sa_nil)) sa_nil)))))
theorem G_least (F : Fx w K mg) (B : Bx K mg base) : FnG P w K mg base (tb K) "least" 5 1 Z_least [] := by
  obtain ⟨fd, hf, h⟩ := o_least (P := P) (base := base) F B
  exact ⟨_, fd, _, [], [], h, g_least F, hf.kp, FunD.bindsN hf fun _ _ _ _ _ _ us hl => match us, hl with | [_], _ => rfl, .nil, fun _ => rfl⟩
def N__law_longer : List Str := ["_law_layer", "_law_signs", "_law_found", "_law_one", "_law_sign"]
abbrev b__law_longer_0 : MS := (sDrop (sExp (mMut1 2 extF (mLc [4] (.nm 4) (mIt itS (mVar 1)) mYes (mOp2 addD (mVar 3) (mVar 4))))) [3])
def m__law_longer : MS := (sSeq (sSet 2 (mLst []))
  (sSeq (sDrop (sFor (.nm 3) (mIt itL (mVar 0)) b__law_longer_0) [3])
  (sRet (mVar 2))))
def Z__law_longer : Fn := runF (fun i => [0, 1].contains i) 2 3 m__law_longer
theorem sc__law_longer : FnScope N__law_longer ["_law_layer", "_law_signs"] (defScope (top 47)) := ⟨rfl, rfl, rfl, by decide +kernel, rfl, by decide +kernel, by decide +kernel⟩
theorem o__law_longer (F : Fx w K mg) (B : Bx K mg base) : ∃ fd, FunD K "_law_longer" "_law_longer" (defArgs (top 47)) (defBody (top 47)) (defScope (top 47)) (d__law_longer.dvs K) (d__law_longer.kws K) (He.ga K "_law_longer") fd ∧ FO P w K mg base (tb K) 1 (He.ga K "_law_longer") fd ["_law_layer", "_law_signs"] Z__law_longer 2 := by
  obtain ⟨fd, hf⟩ := fd__law_longer F
  refine ⟨fd, hf, fn_F hf sc__law_longer (fun i => [0, 1].contains i) rfl rfl _ (fun _ _ => rfl) fun cdv A outer s H E hc hci hr => ?_⟩
  have cdE := code_of hf hc hci
  have tk : Takes (cxOf (L2.CX P w) P w K mg base N__law_longer "_law_longer" (defScope (top 47)) (He.ga K "_law_longer") cdv A outer s H E) (fun cls d _ H => E cls d H) := takes_of rfl rfl rfl rfl
  have nd : N__law_longer.Nodup := sc__law_longer.nd
  exact (sss_cons (ss_set (i := 2) rfl nd rfl (by first | exact Or.inl rfl | exact Or.inr rfl) (se_lst sd_nil))
  (sss_cons (ss_drop [3] (ss_for (passes_of rfl) rfl (si_list (se_var (pv 0))) (sg_name (i := 3) rfl nd rfl (by first | exact Or.inl rfl | exact Or.inr rfl)) (sss_drop [3] (sss_one (ss_exp (se_mut1 (i := 2) PySem.F.slot_list_extend PySem.F.type_list_extend mt_extR m_ext (pv 2) (se_lc (own := [("_law_sign", 4)]) rfl nd (si_str (se_var (pv 1))) (blkOk_by (own := [("_law_sign", 4)]) (N := N__law_longer) (sc := defScope (top 47)) (by decide +kernel)) (fun _ _ _ _ _ => (sg_name (i := 4) rfl nd rfl (by first | exact Or.inl rfl | exact Or.inr rfl))) (fun _ _ _ _ _ => sts_nil) (fun _ _ _ _ _ => (se_op op_addV v_add (se_var (pv 3)) (se_var (pv 4)))))))))))
  (sss_one (ss_ret (se_var (pv 2))))))
theorem G__law_longer (F : Fx w K mg) (B : Bx K mg base) : FnG P w K mg base (tb K) "_law_longer" 1 2 Z__law_longer [] := by
  obtain ⟨fd, hf, h⟩ := o__law_longer (P := P) (base := base) F B
  exact ⟨_, fd, _, [], [], h, g__law_longer F, hf.kp, FunD.bindsN hf fun _ _ _ _ _ _ us hl => match us, hl with | [_, _], _ => rfl, .nil, fun _ => rfl⟩
def N__law_lesser : List Str := ["_law_text_here", "_law_found", "_law_layer", "_law_one"]
abbrev b__law_lesser_0 : MS := (sSeq (sSet 1 (mOl2 catL (mVar 1) (mVar 2)))
  (sSet 2 (mCall Z__law_longer [] [] [(mVar 2), (mC (.str [32, 35, 42, 43, 44, 48, 78]))])))
def m__law_lesser : MS := (sSeq (sPar [1, 2] [(mLst []), (mLst [(mC (.str []))])])
  (sSeq (sWhile 4 (mTB (mOp2 ltD (mBi lenD [(mOp2 ixD (mVar 2) (mC (.int 0)))]) (mBi lenD [(mVar 0)]))) b__law_lesser_0)
  (sRet (mOl2 catL (mVar 1) (mLc [3] (.nm 3) (mIt itL (mVar 2)) (mTB (mOp2 ltD (mVar 3) (mVar 0))) (mVar 3))))))
def Z__law_lesser : Fn := runF (fun i => [0].contains i) 1 3 m__law_lesser
theorem sc__law_lesser : FnScope N__law_lesser ["_law_text_here"] (defScope (top 48)) := ⟨rfl, rfl, rfl, by decide +kernel, rfl, by decide +kernel, by decide +kernel⟩
theorem o__law_lesser (F : Fx w K mg) (B : Bx K mg base) : ∃ fd, FunD K "_law_lesser" "_law_lesser" (defArgs (top 48)) (defBody (top 48)) (defScope (top 48)) (d__law_lesser.dvs K) (d__law_lesser.kws K) (He.ga K "_law_lesser") fd ∧ FO P w K mg base (tb K) 2 (He.ga K "_law_lesser") fd ["_law_text_here"] Z__law_lesser 1 := by
  obtain ⟨fd, hf⟩ := fd__law_lesser F
  refine ⟨fd, hf, fn_F hf sc__law_lesser (fun i => [0].contains i) rfl rfl _ (fun _ _ => rfl) fun cdv A outer s H E hc hci hr => ?_⟩
  have cdE := code_of hf hc hci
  have tk : Takes (cxOf (L2.CX P w) P w K mg base N__law_lesser "_law_lesser" (defScope (top 48)) (He.ga K "_law_lesser") cdv A outer s H E) (fun cls d _ H => E cls d H) := takes_of rfl rfl rfl rfl
  have nd : N__law_lesser.Nodup := sc__law_lesser.nd
  exact (sss_cons (ss_par (i := 1) (j := 2) rfl rfl rfl nd rfl rfl (by decide) rfl rfl (so_cons (se_lst sd_nil) (so_cons (se_lst (sd_cons (se_str (l := [])) sd_nil)) so_nil)) (by rfl))
  (sss_cons (ss_while 4 (passes_of rfl) (sb_cmp op_ltV v_lt (se_bi call_lenV b_len rfl (n_len F) boot_len (sa_cons (se_ix ix_seq v_ix (se_var (pv 2)) se_int (fun _ _ => rfl)) sa_nil)) (se_bi call_lenV b_len rfl (n_len F) boot_len (sa_cons (se_var (pv 0)) sa_nil)) (nomark _)) (sss_cons (ss_set (i := 1) rfl nd rfl (by first | exact Or.inl rfl | exact Or.inr rfl) (se_opL op_catR v_cat (se_var (pv 1)) (se_var (pv 2))))
  (sss_one (ss_set (i := 2) rfl nd rfl (by first | exact Or.inl rfl | exact Or.inr rfl) (se_fn (G__law_longer F B) hr tk [] (sa_cons (se_var (pv 2)) (sa_cons (se_str (l := [32, 35, 42, 43, 44, 48, 78])) sa_nil)))))))
  (sss_one (ss_ret (se_opL op_catR v_cat (se_var (pv 1)) (se_lc (own := [("_law_one", 3)]) rfl nd (si_list (se_var (pv 2))) (blkOk_by (own := [("_law_one", 3)]) (N := N__law_lesser) (sc := defScope (top 48)) (by decide +kernel)) (fun _ _ _ _ _ => (sg_name (i := 3) rfl nd rfl (by first | exact Or.inl rfl | exact Or.inr rfl))) (fun _ _ _ _ _ => (sts_one (sb_cmp op_ltV v_lt (se_var (pv 3)) (se_var (pv 0)) (nomark _)))) (fun _ _ _ _ _ => (se_var (pv 3)))))))))
theorem G__law_lesser (F : Fx w K mg) (B : Bx K mg base) : FnG P w K mg base (tb K) "_law_lesser" 2 1 Z__law_lesser [] := by
  obtain ⟨fd, hf, h⟩ := o__law_lesser (P := P) (base := base) F B
  exact ⟨_, fd, _, [], [], h, g__law_lesser F, hf.kp, FunD.bindsN hf fun _ _ _ _ _ _ us hl => match us, hl with | [_], _ => rfl, .nil, fun _ => rfl⟩
def N_lead_of : List Str := ["words", "first", "word"]
def m_lead_of : MS := (sSeq (sSet 1 (mNextS (fun k => decide (k ∈ c_STRONG)) (mVar 0)))
  (sRet (mIf (mTB (mOp2 isD (mVar 1) (mC .non))) (mC .non) (mBi intD [(mOp2 neD (mVar 1) (mC (.str [76])))]))))
def Z_lead_of : Fn := runF (fun i => [0].contains i) 1 2 m_lead_of
theorem sc_lead_of : FnScope N_lead_of ["words"] (defScope (top 34)) := ⟨rfl, rfl, rfl, by decide +kernel, rfl, by decide +kernel, by decide +kernel⟩
theorem o_lead_of (F : Fx w K mg) (B : Bx K mg base) : ∃ fd, FunD K "lead_of" "lead_of" (defArgs (top 34)) (defBody (top 34)) (defScope (top 34)) (d_lead_of.dvs K) (d_lead_of.kws K) (He.ga K "lead_of") fd ∧ FO P w K mg base (tb K) 1 (He.ga K "lead_of") fd ["words"] Z_lead_of 1 := by
  obtain ⟨fd, hf⟩ := fd_lead_of F
  refine ⟨fd, hf, fn_F hf sc_lead_of (fun i => [0].contains i) rfl rfl _ (fun _ _ => rfl) fun cdv A outer s H E hc hci hr => ?_⟩
  have cdE := code_of hf hc hci
  have tk : Takes (cxOf (L2.CX P w) P w K mg base N_lead_of "lead_of" (defScope (top 34)) (He.ga K "lead_of") cdv A outer s H E) (fun cls d _ H => E cls d H) := takes_of rfl rfl rfl rfl
  have nd : N_lead_of.Nodup := sc_lead_of.nd
  exact (sss_cons (ss_set (i := 1) rfl nd rfl (by first | exact Or.inl rfl | exact Or.inr rfl) (se_nextS (q := ((He.cT K ("lead_of", none)).2, none)) hr rfl (n_next F) (B _ (by decide)) (tbs_mem K (by decide)) (tbs_none K) cdE (genS (by decide +kernel)) (se_var (pv 0)) (ifs_in rfl (by decide +kernel) (fun ce h => kind_of h (by decide +kernel)) (v_STRONG F)) (fun _ => rfl) (by decide)))
  (sss_one (ss_ret (se_if (sb_cmp op_isN v_isN (se_var (pv 1)) se_non (nomark _)) se_non (se_ti call_int1 b_int rfl (n_int F) boot_int (sa_cons (se_cmp (op_neP hr.units) v_ne (se_var (pv 1)) (se_str (l := [76])) (nomark _)) sa_nil))))))
theorem G_lead_of (F : Fx w K mg) (B : Bx K mg base) : FnG P w K mg base (tb K) "lead_of" 1 1 Z_lead_of [] := by
  obtain ⟨fd, hf, h⟩ := o_lead_of (P := P) (base := base) F B
  exact ⟨_, fd, _, [], [], h, g_lead_of F, hf.kp, FunD.bindsN hf fun _ _ _ _ _ _ us hl => match us, hl with | [_], _ => rfl, .nil, fun _ => rfl⟩
def N_direction_of : List Str := ["state"]
def m_direction_of : MS := (sRet (mBi intD [(mOp2 neD (mOp2 ixD (mVar 0) (mC (.int 0))) (mC (.str [76])))]))
def Z_direction_of : Fn := runF (fun i => [0].contains i) 1 0 m_direction_of
theorem sc_direction_of : FnScope N_direction_of ["state"] (defScope (top 24)) := ⟨rfl, rfl, rfl, by decide +kernel, rfl, by decide +kernel, by decide +kernel⟩
theorem o_direction_of (F : Fx w K mg) (B : Bx K mg base) : ∃ fd, FunD K "direction_of" "direction_of" (defArgs (top 24)) (defBody (top 24)) (defScope (top 24)) (d_direction_of.dvs K) (d_direction_of.kws K) (He.ga K "direction_of") fd ∧ FO P w K mg base (tb K) 1 (He.ga K "direction_of") fd ["state"] Z_direction_of 1 := by
  obtain ⟨fd, hf⟩ := fd_direction_of F
  refine ⟨fd, hf, fn_F hf sc_direction_of (fun i => [0].contains i) rfl rfl _ (fun _ _ => rfl) fun cdv A outer s H E hc hci hr => ?_⟩
  have cdE := code_of hf hc hci
  have tk : Takes (cxOf (L2.CX P w) P w K mg base N_direction_of "direction_of" (defScope (top 24)) (He.ga K "direction_of") cdv A outer s H E) (fun cls d _ H => E cls d H) := takes_of rfl rfl rfl rfl
  have nd : N_direction_of.Nodup := sc_direction_of.nd
  exact (sss_one (ss_ret (se_ti call_int1 b_int rfl (n_int F) boot_int (sa_cons (se_cmp (op_neP hr.units) v_ne (se_ix ix_seq v_ix (se_var (pv 0)) se_int (fun _ _ => rfl)) (se_str (l := [76])) (nomark _)) sa_nil))))
theorem G_direction_of (F : Fx w K mg) (B : Bx K mg base) : FnG P w K mg base (tb K) "direction_of" 1 1 Z_direction_of [] := by
  obtain ⟨fd, hf, h⟩ := o_direction_of (P := P) (base := base) F B
  exact ⟨_, fd, _, [], [], h, g_direction_of F, hf.kp, FunD.bindsN hf fun _ _ _ _ _ _ us hl => match us, hl with | [_], _ => rfl, .nil, fun _ => rfl⟩
def N_next_direction : List Str := ["state", "word"]
def m_next_direction : MS := (sSeq (sIf (mTB (mOp2 inD (mVar 1) (mC (.str c_STRONG)))) (sRet (mBi intD [(mOp2 neD (mVar 1) (mC (.str [76])))])) sPass)
  (sRet (mIf (mTB (mOp2 eqD (mVar 1) (mC (.str [68])))) (mCall Z_direction_of [] [] [(mVar 0)]) (mC .non))))
def Z_next_direction : Fn := runF (fun i => [0, 1].contains i) 2 0 m_next_direction
theorem sc_next_direction : FnScope N_next_direction ["state", "word"] (defScope (top 25)) := ⟨rfl, rfl, rfl, by decide +kernel, rfl, by decide +kernel, by decide +kernel⟩
theorem o_next_direction (F : Fx w K mg) (B : Bx K mg base) : ∃ fd, FunD K "next_direction" "next_direction" (defArgs (top 25)) (defBody (top 25)) (defScope (top 25)) (d_next_direction.dvs K) (d_next_direction.kws K) (He.ga K "next_direction") fd ∧ FO P w K mg base (tb K) 2 (He.ga K "next_direction") fd ["state", "word"] Z_next_direction 2 := by
  obtain ⟨fd, hf⟩ := fd_next_direction F
  refine ⟨fd, hf, fn_F hf sc_next_direction (fun i => [0, 1].contains i) rfl rfl _ (fun _ _ => rfl) fun cdv A outer s H E hc hci hr => ?_⟩
  have cdE := code_of hf hc hci
  have tk : Takes (cxOf (L2.CX P w) P w K mg base N_next_direction "next_direction" (defScope (top 25)) (He.ga K "next_direction") cdv A outer s H E) (fun cls d _ H => E cls d H) := takes_of rfl rfl rfl rfl
  have nd : N_next_direction.Nodup := sc_next_direction.nd
  exact (sss_cons (ss_if (sb_cmp (op_inV hr.units) v_in (se_var (pv 1)) (se_gstr rfl (v_STRONG F)) (by with_unfolding_all rfl)) (sss_one (ss_ret (se_ti call_int1 b_int rfl (n_int F) boot_int (sa_cons (se_cmp (op_neP hr.units) v_ne (se_var (pv 1)) (se_str (l := [76])) (nomark _)) sa_nil)))) sss_nil)
  (sss_one (ss_ret (se_if (sb_cmp (op_eqP hr.units) v_eq (se_var (pv 1)) (se_str (l := [68])) (nomark _)) (se_fn (G_direction_of F B) hr tk [] (sa_cons (se_var (pv 0)) sa_nil)) se_non))))
theorem G_next_direction (F : Fx w K mg) (B : Bx K mg base) : FnG P w K mg base (tb K) "next_direction" 2 2 Z_next_direction [] := by
  obtain ⟨fd, hf, h⟩ := o_next_direction (P := P) (base := base) F B
  exact ⟨_, fd, _, [], [], h, g_next_direction F, hf.kp, FunD.bindsN hf fun _ _ _ _ _ _ us hl => match us, hl with | [_, _], _ => rfl, .nil, fun _ => rfl⟩
def N_fate : List Str := ["letter", "state", "word", "told"]
def m_fate : MS := (sSeq (sIf (mOr (mAnd (mTB (mOp2 eqD (mVar 0) (mC (.str [83])))) (mTB (mOp2 eqD (mVar 2) (mC (.str [68]))))) (mAnd (mTB (mOp2 eqD (mVar 0) (mC (.str [84])))) (mAnd (mTB (mOp2 eqD (mVar 2) (mC (.str [68])))) (mTB (mOp2 neD (mOp2 ixD (mVar 1) (mC (.int 0))) (mC (.str [65]))))))) (sRet (mC (.str c_DIGIT))) sPass)
  (sSeq (sIf (mAnd (mTB (mOp2 eqD (mVar 0) (mC (.str [84])))) (mTB (mOp2 eqD (mVar 2) (mC (.str [84]))))) (sRet (mC (.str [84]))) sPass)
  (sSeq (sSet 3 (mCall Z_next_direction [] [] [(mVar 1), (mVar 2)]))
  (sRet (mIf (mTB (mOp2 isD (mVar 3) (mC .non))) (mC (.str [78])) (mVar 3))))))
def Z_fate : Fn := runF (fun i => [0, 1, 2].contains i) 3 1 m_fate
theorem sc_fate : FnScope N_fate ["letter", "state", "word"] (defScope (top 26)) := ⟨rfl, rfl, rfl, by decide +kernel, rfl, by decide +kernel, by decide +kernel⟩
theorem o_fate (F : Fx w K mg) (B : Bx K mg base) : ∃ fd, FunD K "fate" "fate" (defArgs (top 26)) (defBody (top 26)) (defScope (top 26)) (d_fate.dvs K) (d_fate.kws K) (He.ga K "fate") fd ∧ FO P w K mg base (tb K) 3 (He.ga K "fate") fd ["letter", "state", "word"] Z_fate 3 := by
  obtain ⟨fd, hf⟩ := fd_fate F
  refine ⟨fd, hf, fn_F hf sc_fate (fun i => [0, 1, 2].contains i) rfl rfl _ (fun _ _ => rfl) fun cdv A outer s H E hc hci hr => ?_⟩
  have cdE := code_of hf hc hci
  have tk : Takes (cxOf (L2.CX P w) P w K mg base N_fate "fate" (defScope (top 26)) (He.ga K "fate") cdv A outer s H E) (fun cls d _ H => E cls d H) := takes_of rfl rfl rfl rfl
  have nd : N_fate.Nodup := sc_fate.nd
  exact (sss_cons (ss_if (sw_pt (sw_or (sw_pt (sw_and (sb_cmp (op_eqP hr.units) v_eq (se_var (pv 0)) (se_str (l := [83])) (nomark _)) (sw_and1 (sb_cmp (op_eqP hr.units) v_eq (se_var (pv 2)) (se_str (l := [68])) (nomark _))))) (sw_or1 (sw_pt (sw_and (sb_cmp (op_eqP hr.units) v_eq (se_var (pv 0)) (se_str (l := [84])) (nomark _)) (sw_and (sb_cmp (op_eqP hr.units) v_eq (se_var (pv 2)) (se_str (l := [68])) (nomark _)) (sw_and1 (sb_cmp (op_neP hr.units) v_ne (se_ix ix_seq v_ix (se_var (pv 1)) se_int (fun _ _ => rfl)) (se_str (l := [65])) (nomark _))))))))) (sss_one (ss_ret (se_gstr rfl (v_DIGIT F)))) sss_nil)
  (sss_cons (ss_if (sw_pt (sw_and (sb_cmp (op_eqP hr.units) v_eq (se_var (pv 0)) (se_str (l := [84])) (nomark _)) (sw_and1 (sb_cmp (op_eqP hr.units) v_eq (se_var (pv 2)) (se_str (l := [84])) (nomark _))))) (sss_one (ss_ret (se_str (l := [84])))) sss_nil)
  (sss_cons (ss_set (i := 3) rfl nd rfl (by first | exact Or.inl rfl | exact Or.inr rfl) (se_fn (G_next_direction F B) hr tk [] (sa_cons (se_var (pv 1)) (sa_cons (se_var (pv 2)) sa_nil))))
  (sss_one (ss_ret (se_if (sb_cmp op_isN v_isN (se_var (pv 3)) se_non (nomark _)) (se_str (l := [78])) (se_var (pv 3))))))))
theorem G_fate (F : Fx w K mg) (B : Bx K mg base) : FnG P w K mg base (tb K) "fate" 3 3 Z_fate [] := by
  obtain ⟨fd, hf, h⟩ := o_fate (P := P) (base := base) F B
  exact ⟨_, fd, _, [], [], h, g_fate F, hf.kp, FunD.bindsN hf fun _ _ _ _ _ _ us hl => match us, hl with | [_, _, _], _ => rfl, .nil, fun _ => rfl⟩
def N_fate_within : List Str := ["letter", "state", "words", "word", "told"]
abbrev b_fate_within_0 : MS := (sDrop (sSeq (sSet 4 (mCall Z_fate [] [] [(mVar 0), (mVar 1), (mVar 3)]))
  (sSeq (sIf (mTB (mOp2 ninD (mVar 4) (mTup [(mC (.str [78])), (mC (.str [84]))]))) (sRet (mVar 4)) sPass)
  (sPar [0, 1] [(mVar 4), (mCall Z_next_state [] [] [(mVar 1), (mVar 3)])]))) [3, 4])
def m_fate_within : MS := (sSeq (sDrop (sFor (.nm 3) (mIt itS (mVar 2)) b_fate_within_0) [3, 4])
  (sRet (mVar 0)))
def Z_fate_within : Fn := runF (fun i => [2].contains i) 3 2 m_fate_within
theorem sc_fate_within : FnScope N_fate_within ["letter", "state", "words"] (defScope (top 31)) := ⟨rfl, rfl, rfl, by decide +kernel, rfl, by decide +kernel, by decide +kernel⟩
theorem o_fate_within (F : Fx w K mg) (B : Bx K mg base) : ∃ fd, FunD K "fate_within" "fate_within" (defArgs (top 31)) (defBody (top 31)) (defScope (top 31)) (d_fate_within.dvs K) (d_fate_within.kws K) (He.ga K "fate_within") fd ∧ FO P w K mg base (tb K) 4 (He.ga K "fate_within") fd ["letter", "state", "words"] Z_fate_within 3 := by
  obtain ⟨fd, hf⟩ := fd_fate_within F
  refine ⟨fd, hf, fn_F hf sc_fate_within (fun i => [2].contains i) rfl rfl _ (fun _ _ => rfl) fun cdv A outer s H E hc hci hr => ?_⟩
  have cdE := code_of hf hc hci
  have tk : Takes (cxOf (L2.CX P w) P w K mg base N_fate_within "fate_within" (defScope (top 31)) (He.ga K "fate_within") cdv A outer s H E) (fun cls d _ H => E cls d H) := takes_of rfl rfl rfl rfl
  have nd : N_fate_within.Nodup := sc_fate_within.nd
  exact (sss_cons (ss_drop [3, 4] (ss_for (passes_of rfl) rfl (si_str (se_var (pv 2))) (sg_name (i := 3) rfl nd rfl (by first | exact Or.inl rfl | exact Or.inr rfl)) (sss_drop [3, 4] (sss_cons (ss_set (i := 4) rfl nd rfl (by first | exact Or.inl rfl | exact Or.inr rfl) (se_fn (G_fate F B) hr tk [] (sa_cons (se_var (pv 0)) (sa_cons (se_var (pv 1)) (sa_cons (se_var (pv 3)) sa_nil)))))
  (sss_cons (ss_if (sb_cmp (op_notInV hr.units) v_notIn (se_var (pv 4)) (se_tup (sd_cons (se_str (l := [78])) (sd_cons (se_str (l := [84])) sd_nil))) (by with_unfolding_all rfl)) (sss_one (ss_ret (se_var (pv 4)))) sss_nil)
  (sss_one (ss_par (i := 0) (j := 1) rfl rfl rfl nd rfl rfl (by decide) rfl rfl (so_cons (se_var (pv 4)) (so_cons (se_fn (G_next_state F B) hr tk [] (sa_cons (se_var (pv 1)) (sa_cons (se_var (pv 3)) sa_nil))) so_nil)) (by rfl))))))))
  (sss_one (ss_ret (se_var (pv 0)))))
theorem G_fate_within (F : Fx w K mg) (B : Bx K mg base) : FnG P w K mg base (tb K) "fate_within" 4 3 Z_fate_within [] := by
  obtain ⟨fd, hf, h⟩ := o_fate_within (P := P) (base := base) F B
  exact ⟨_, fd, _, [], [], h, g_fate_within F, hf.kp, FunD.bindsN hf fun _ _ _ _ _ _ us hl => match us, hl with | [_, _, _], _ => rfl, .nil, fun _ => rfl⟩
def N_entry_of : List Str := ["state", "words", "neutral", "waiting", "told"]
def m_entry_of : MS := (sSeq (sAsg2 (.nm 2) (.nm 3) (mC .non))
  (sSeq (sDrop (sIf (mTB (mOp2 inD (mOp2 ixD (mVar 0) (mC (.int 1))) (mTup [(mC (.str [])), (mC (.str [114, 117, 110]))]))) (sSeq (sSet 4 (mCall Z_fate_within [] [] [(mC (.str [78])), (mVar 0), (mVar 1)]))
  (sSet 2 (mIf (mTB (mOp2 eqD (mVar 4) (mC (.str [78])))) (mC .non) (mVar 4)))) sPass) [4])
  (sSeq (sDrop (sIf (mTB (mOp2 inD (mOp2 ixD (mVar 0) (mC (.int 1))) (mTup [(mC (.str [114, 117, 110])), (mC (.str [115, 105, 103, 110]))]))) (sSeq (sSet 4 (mCall Z_fate_within [] [] [(mIf (mTB (mOp2 eqD (mOp2 ixD (mVar 0) (mC (.int 1))) (mC (.str [115, 105, 103, 110])))) (mC (.str [83])) (mC (.str [84]))), (mVar 0), (mVar 1)]))
  (sSet 3 (mIf (mTB (mOp2 inD (mVar 4) (mTup [(mC (.str [83])), (mC (.str [84]))]))) (mC .non) (mVar 4)))) sPass) [4])
  (sRet (mTup [(mCall Z_read_in [] [] [(mVar 0), (mVar 1)]), (mVar 2), (mVar 3)])))))
def Z_entry_of : Fn := runF (fun i => [0, 1].contains i) 2 3 m_entry_of
theorem sc_entry_of : FnScope N_entry_of ["state", "words"] (defScope (top 32)) := ⟨rfl, rfl, rfl, by decide +kernel, rfl, by decide +kernel, by decide +kernel⟩
theorem o_entry_of (F : Fx w K mg) (B : Bx K mg base) : ∃ fd, FunD K "entry_of" "entry_of" (defArgs (top 32)) (defBody (top 32)) (defScope (top 32)) (d_entry_of.dvs K) (d_entry_of.kws K) (He.ga K "entry_of") fd ∧ FO P w K mg base (tb K) 5 (He.ga K "entry_of") fd ["state", "words"] Z_entry_of 2 := by
  obtain ⟨fd, hf⟩ := fd_entry_of F
  refine ⟨fd, hf, fn_F hf sc_entry_of (fun i => [0, 1].contains i) rfl rfl _ (fun _ _ => rfl) fun cdv A outer s H E hc hci hr => ?_⟩
  have cdE := code_of hf hc hci
  have tk : Takes (cxOf (L2.CX P w) P w K mg base N_entry_of "entry_of" (defScope (top 32)) (He.ga K "entry_of") cdv A outer s H E) (fun cls d _ H => E cls d H) := takes_of rfl rfl rfl rfl
  have nd : N_entry_of.Nodup := sc_entry_of.nd
  exact (sss_cons (ss_asg2 se_non (sg_name (i := 2) rfl nd rfl (by first | exact Or.inl rfl | exact Or.inr rfl)) (sg_name (i := 3) rfl nd rfl (by first | exact Or.inl rfl | exact Or.inr rfl)))
  (sss_cons (ss_drop [4] (ss_if (sb_cmp (op_inV hr.units) v_in (se_ix ix_seq v_ix (se_var (pv 0)) se_int (fun _ _ => rfl)) (se_tup (sd_cons (se_str (l := [])) (sd_cons (se_str (l := [114, 117, 110])) sd_nil))) (by with_unfolding_all rfl)) (sss_cons (ss_set (i := 4) rfl nd rfl (by first | exact Or.inl rfl | exact Or.inr rfl) (se_fn (G_fate_within F B) hr tk [] (sa_cons (se_str (l := [78])) (sa_cons (se_var (pv 0)) (sa_cons (se_var (pv 1)) sa_nil)))))
  (sss_one (ss_set (i := 2) rfl nd rfl (by first | exact Or.inl rfl | exact Or.inr rfl) (se_if (sb_cmp (op_eqP hr.units) v_eq (se_var (pv 4)) (se_str (l := [78])) (nomark _)) se_non (se_var (pv 4)))))) sss_nil))
  (sss_cons (ss_drop [4] (ss_if (sb_cmp (op_inV hr.units) v_in (se_ix ix_seq v_ix (se_var (pv 0)) se_int (fun _ _ => rfl)) (se_tup (sd_cons (se_str (l := [114, 117, 110])) (sd_cons (se_str (l := [115, 105, 103, 110])) sd_nil))) (by with_unfolding_all rfl)) (sss_cons (ss_set (i := 4) rfl nd rfl (by first | exact Or.inl rfl | exact Or.inr rfl) (se_fn (G_fate_within F B) hr tk [] (sa_cons (se_if (sb_cmp (op_eqP hr.units) v_eq (se_ix ix_seq v_ix (se_var (pv 0)) se_int (fun _ _ => rfl)) (se_str (l := [115, 105, 103, 110])) (nomark _)) (se_str (l := [83])) (se_str (l := [84]))) (sa_cons (se_var (pv 0)) (sa_cons (se_var (pv 1)) sa_nil)))))
  (sss_one (ss_set (i := 3) rfl nd rfl (by first | exact Or.inl rfl | exact Or.inr rfl) (se_if (sb_cmp (op_inV hr.units) v_in (se_var (pv 4)) (se_tup (sd_cons (se_str (l := [83])) (sd_cons (se_str (l := [84])) sd_nil))) (by with_unfolding_all rfl)) se_non (se_var (pv 4)))))) sss_nil))
  (sss_one (ss_ret (se_tup (sd_cons (se_fn (G_read_in F B) hr tk [] (sa_cons (se_var (pv 0)) (sa_cons (se_var (pv 1)) sa_nil))) (sd_cons (se_var (pv 2)) (sd_cons (se_var (pv 3)) sd_nil)))))))))
theorem G_entry_of (F : Fx w K mg) (B : Bx K mg base) : FnG P w K mg base (tb K) "entry_of" 5 2 Z_entry_of [] := by
  obtain ⟨fd, hf, h⟩ := o_entry_of (P := P) (base := base) F B
  exact ⟨_, fd, _, [], [], h, g_entry_of F, hf.kp, FunD.bindsN hf fun _ _ _ _ _ _ us hl => match us, hl with | [_, _], _ => rfl, .nil, fun _ => rfl⟩
def N_states : List Str := ["strong", "tail"]
def m_states : MS := (sRet (mLc2 [0, 1] (.nm 0) (mIt itL (mBl sortSD [(mC (.str c_STRONG))])) mYes [1] (.nm 1) (mIt itT (mC (.tup c_TAILS))) (mTB (mOp2 neD (mTup [(mVar 0), (mVar 1)]) (mTup [(mC (.str [65])), (mC (.str [106, 111, 105, 110, 101, 100]))]))) (mTup [(mVar 0), (mVar 1)])))
def Z_states : Fn := runF (fun i => [].contains i) 0 2 m_states
theorem sc_states : FnScope N_states [] (defScope (top 22)) := ⟨rfl, rfl, rfl, by decide +kernel, rfl, by decide +kernel, by decide +kernel⟩
theorem o_states (F : Fx w K mg) (B : Bx K mg base) : ∃ fd, FunD K "states" "states" (defArgs (top 22)) (defBody (top 22)) (defScope (top 22)) (d_states.dvs K) (d_states.kws K) (He.ga K "states") fd ∧ FO P w K mg base (tb K) 1 (He.ga K "states") fd [] Z_states 0 := by
  obtain ⟨fd, hf⟩ := fd_states F
  refine ⟨fd, hf, fn_F hf sc_states (fun i => [].contains i) rfl rfl _ (fun _ _ => rfl) fun cdv A outer s H E hc hci hr => ?_⟩
  have cdE := code_of hf hc hci
  have tk : Takes (cxOf (L2.CX P w) P w K mg base N_states "states" (defScope (top 22)) (He.ga K "states") cdv A outer s H E) (fun cls d _ H => E cls d H) := takes_of rfl rfl rfl rfl
  have nd : N_states.Nodup := sc_states.nd
  exact (sss_one (ss_ret (se_lc2 (own := [("strong", 0), ("tail", 1)]) (own1 := [1]) rfl nd (si_list (se_bl' (call_sortStr rfl) b_sortS rfl (n_sorted F) boot_sorted (sa_cons (se_gstr rfl (v_STRONG F)) sa_nil))) (blkOk_by (own := [("strong", 0), ("tail", 1)]) (N := N_states) (sc := defScope (top 22)) (by decide +kernel)) (by decide) (fun _ _ _ _ _ => (sg_name (i := 0) rfl nd rfl (by first | exact Or.inl rfl | exact Or.inr rfl))) (fun _ _ _ _ _ => sts_nil) (fun _ _ _ _ _ => (si_tup (se_gref rfl (g_TAILS F) (t_TAILS F rfl)))) (fun _ _ _ _ _ => (sg_name (i := 1) rfl nd rfl (by first | exact Or.inl rfl | exact Or.inr rfl))) (fun _ _ _ _ _ => (sts_one (sb_cmp (op_neP hr.units) v_ne (se_tup (sd_cons (se_var (pv 0)) (sd_cons (se_var (pv 1)) sd_nil))) (se_tup (sd_cons (se_str (l := [65])) (sd_cons (se_str (l := [106, 111, 105, 110, 101, 100])) sd_nil))) (nomark _)))) (fun _ _ _ _ _ => (se_tup (sd_cons (se_var (pv 0)) (sd_cons (se_var (pv 1)) sd_nil)))))))
theorem G_states (F : Fx w K mg) (B : Bx K mg base) : FnG P w K mg base (tb K) "states" 1 0 Z_states [] := by
  obtain ⟨fd, hf, h⟩ := o_states (P := P) (base := base) F B
  exact ⟨_, fd, _, [], [], h, g_states F, hf.kp, FunD.bindsN hf fun _ _ _ _ _ _ us hl => match us, hl with | [], _ => rfl, .nil, fun _ => rfl⟩
def N_effect_of : List Str := ["words", "state"]
def m_effect_of : MS := (sRet (mLc [1] (.nm 1) (mIt itL (mCall Z_states [] [] [])) mYes (mCall Z_entry_of [] [] [(mVar 1), (mVar 0)])))
def Z_effect_of : Fn := runF (fun i => [0].contains i) 1 1 m_effect_of
theorem sc_effect_of : FnScope N_effect_of ["words"] (defScope (top 33)) := ⟨rfl, rfl, rfl, by decide +kernel, rfl, by decide +kernel, by decide +kernel⟩
theorem o_effect_of (F : Fx w K mg) (B : Bx K mg base) : ∃ fd, FunD K "effect_of" "effect_of" (defArgs (top 33)) (defBody (top 33)) (defScope (top 33)) (d_effect_of.dvs K) (d_effect_of.kws K) (He.ga K "effect_of") fd ∧ FO P w K mg base (tb K) 6 (He.ga K "effect_of") fd ["words"] Z_effect_of 1 := by
  obtain ⟨fd, hf⟩ := fd_effect_of F
  refine ⟨fd, hf, fn_F hf sc_effect_of (fun i => [0].contains i) rfl rfl _ (fun _ _ => rfl) fun cdv A outer s H E hc hci hr => ?_⟩
  have cdE := code_of hf hc hci
  have tk : Takes (cxOf (L2.CX P w) P w K mg base N_effect_of "effect_of" (defScope (top 33)) (He.ga K "effect_of") cdv A outer s H E) (fun cls d _ H => E cls d H) := takes_of rfl rfl rfl rfl
  have nd : N_effect_of.Nodup := sc_effect_of.nd
  exact (sss_one (ss_ret (se_lc (own := [("state", 1)]) rfl nd (si_list (se_fn0 (G_states F B) hr tk)) (blkOk_by (own := [("state", 1)]) (N := N_effect_of) (sc := defScope (top 33)) (by decide +kernel)) (fun _ _ _ _ _ => (sg_name (i := 1) rfl nd rfl (by first | exact Or.inl rfl | exact Or.inr rfl))) (fun _ _ _ _ _ => sts_nil) (fun _ _ _ _ _ => (se_fn (G_entry_of F B) hr no_takes [] (sa_cons (se_var (pv 1)) (sa_cons (se_var (pv 0)) sa_nil)))))))
theorem G_effect_of (F : Fx w K mg) (B : Bx K mg base) : FnG P w K mg base (tb K) "effect_of" 6 1 Z_effect_of [] := by
  obtain ⟨fd, hf, h⟩ := o_effect_of (P := P) (base := base) F B
  exact ⟨_, fd, _, [], [], h, g_effect_of F, hf.kp, FunD.bindsN hf fun _ _ _ _ _ _ us hl => match us, hl with | [_], _ => rfl, .nil, fun _ => rfl⟩
def N_is_one_kind : List Str := ["one", "other", "first", "second"]
def m_is_one_kind : MS := (sSeq (sExp (mCall Z_need_plain [] [] [(mVar 0)]))
  (sSeq (sExp (mCall Z_need_plain [] [] [(mVar 1)]))
  (sSeq (sPar [2, 3] [(mCall Z_words_of [] [] [(mVar 0)]), (mCall Z_words_of [] [] [(mVar 1)])])
  (sRet (mAndV (mOp2 eqD (mCall Z_lead_of [] [] [(mVar 2)]) (mCall Z_lead_of [] [] [(mVar 3)])) (mOp2 eqD (mCall Z_effect_of [] [] [(mVar 2)]) (mCall Z_effect_of [] [] [(mVar 3)])))))))
def Z_is_one_kind : Fn := runF (fun i => [0, 1].contains i) 2 2 m_is_one_kind
theorem sc_is_one_kind : FnScope N_is_one_kind ["one", "other"] (defScope (top 38)) := ⟨rfl, rfl, rfl, by decide +kernel, rfl, by decide +kernel, by decide +kernel⟩
theorem o_is_one_kind (F : Fx w K mg) (B : Bx K mg base) : ∃ fd, FunD K "is_one_kind" "is_one_kind" (defArgs (top 38)) (defBody (top 38)) (defScope (top 38)) (d_is_one_kind.dvs K) (d_is_one_kind.kws K) (He.ga K "is_one_kind") fd ∧ FO P w K mg base (tb K) 7 (He.ga K "is_one_kind") fd ["one", "other"] Z_is_one_kind 2 := by
  obtain ⟨fd, hf⟩ := fd_is_one_kind F
  refine ⟨fd, hf, fn_F hf sc_is_one_kind (fun i => [0, 1].contains i) rfl rfl _ (fun _ _ => rfl) fun cdv A outer s H E hc hci hr => ?_⟩
  have cdE := code_of hf hc hci
  have tk : Takes (cxOf (L2.CX P w) P w K mg base N_is_one_kind "is_one_kind" (defScope (top 38)) (He.ga K "is_one_kind") cdv A outer s H E) (fun cls d _ H => E cls d H) := takes_of rfl rfl rfl rfl
  have nd : N_is_one_kind.Nodup := sc_is_one_kind.nd
  exact (sss_cons (ss_exp (se_fn (G_need_plain F B) hr tk [] (sa_cons (se_var (pv 0)) sa_nil)))
  (sss_cons (ss_exp (se_fn (G_need_plain F B) hr tk [] (sa_cons (se_var (pv 1)) sa_nil)))
  (sss_cons (ss_par (i := 2) (j := 3) rfl rfl rfl nd rfl rfl (by decide) rfl rfl (so_cons (se_fn (G_words_of F B) hr tk [] (sa_cons (se_var (pv 0)) sa_nil)) (so_cons (se_fn (G_words_of F B) hr tk [] (sa_cons (se_var (pv 1)) sa_nil)) so_nil)) (by rfl))
  (sss_one (ss_ret (se_and (se_cmp (op_eqP hr.units) v_eq (se_fn (G_lead_of F B) hr tk [] (sa_cons (se_var (pv 2)) sa_nil)) (se_fn (G_lead_of F B) hr tk [] (sa_cons (se_var (pv 3)) sa_nil)) (nomark _)) (se_one (se_cmp (op_eqP hr.units) v_eq (se_fn (G_effect_of F B) hr tk [] (sa_cons (se_var (pv 2)) sa_nil)) (se_fn (G_effect_of F B) hr tk [] (sa_cons (se_var (pv 3)) sa_nil)) (nomark _)))))))))
theorem G_is_one_kind (F : Fx w K mg) (B : Bx K mg base) : FnG P w K mg base (tb K) "is_one_kind" 7 2 Z_is_one_kind [] := by
  obtain ⟨fd, hf, h⟩ := o_is_one_kind (P := P) (base := base) F B
  exact ⟨_, fd, _, [], [], h, g_is_one_kind F, hf.kp, FunD.bindsN hf fun _ _ _ _ _ _ us hl => match us, hl with | [_, _], _ => rfl, .nil, fun _ => rfl⟩
def N_need_factor : List Str := ["text"]
def m_need_factor : MS := (sSeq (sIf (mAnd (mTB (mOp1 (isiD .str) (mVar 0))) (mTB (mOp2 gtD (mBi lenD [(mVar 0)]) (mC (.int 200))))) sBad sPass)
  (sExp (mCall Z_need_plain [] [] [(mVar 0)])))
def Z_need_factor : Fn := runF (fun i => [0].contains i) 1 0 m_need_factor
theorem sc_need_factor : FnScope N_need_factor ["text"] (defScope (top 28)) := ⟨rfl, rfl, rfl, by decide +kernel, rfl, by decide +kernel, by decide +kernel⟩
theorem o_need_factor (F : Fx w K mg) (B : Bx K mg base) : ∃ fd, FunD K "need_factor" "need_factor" (defArgs (top 28)) (defBody (top 28)) (defScope (top 28)) (d_need_factor.dvs K) (d_need_factor.kws K) (He.ga K "need_factor") fd ∧ FO P w K mg base (tb K) 5 (He.ga K "need_factor") fd ["text"] Z_need_factor 1 := by
  obtain ⟨fd, hf⟩ := fd_need_factor F
  refine ⟨fd, hf, fn_F hf sc_need_factor (fun i => [0].contains i) rfl rfl _ (fun _ _ => rfl) fun cdv A outer s H E hc hci hr => ?_⟩
  have cdE := code_of hf hc hci
  have tk : Takes (cxOf (L2.CX P w) P w K mg base N_need_factor "need_factor" (defScope (top 28)) (He.ga K "need_factor") cdv A outer s H E) (fun cls d _ H => E cls d H) := takes_of rfl rfl rfl rfl
  have nd : N_need_factor.Nodup := sc_need_factor.nd
  exact (sss_cons (ss_if (sw_pt (sw_and (sb_val (se_isi (ty := .str) rfl (n_isinstance F) boot_isinstance rfl (n_str F) bt_str (se_var (pv 0)))) (sw_and1 (sb_cmp op_gtV v_gt (se_bi call_lenV b_len rfl (n_len F) boot_len (sa_cons (se_var (pv 0)) sa_nil)) (se_gint rfl (v_MOST_FACTOR F)) (nomark _))))) (sss_one ss_bad) sss_nil)
  (sss_one (ss_exp (se_fn (G_need_plain F B) hr tk [] (sa_cons (se_var (pv 0)) sa_nil)))))
theorem G_need_factor (F : Fx w K mg) (B : Bx K mg base) : FnG P w K mg base (tb K) "need_factor" 5 1 Z_need_factor [] := by
  obtain ⟨fd, hf, h⟩ := o_need_factor (P := P) (base := base) F B
  exact ⟨_, fd, _, [], [], h, g_need_factor F, hf.kp, FunD.bindsN hf fun _ _ _ _ _ _ us hl => match us, hl with | [_], _ => rfl, .nil, fun _ => rfl⟩
def N_product : List Str := ["one", "other"]
def m_product : MS := (sSeq (sExp (mCall Z_need_factor [] [] [(mVar 0)]))
  (sSeq (sExp (mCall Z_need_factor [] [] [(mVar 1)]))
  (sRet (mCall Z_least_of [] [] [(mOp2 addD (mCall Z_words_of [] [] [(mVar 0)]) (mCall Z_words_of [] [] [(mVar 1)]))]))))
def Z_product : Fn := runF (fun i => [0, 1].contains i) 2 0 m_product
theorem sc_product : FnScope N_product ["one", "other"] (defScope (top 40)) := ⟨rfl, rfl, rfl, by decide +kernel, rfl, by decide +kernel, by decide +kernel⟩
theorem o_product (F : Fx w K mg) (B : Bx K mg base) : ∃ fd, FunD K "product" "product" (defArgs (top 40)) (defBody (top 40)) (defScope (top 40)) (d_product.dvs K) (d_product.kws K) (He.ga K "product") fd ∧ FO P w K mg base (tb K) 6 (He.ga K "product") fd ["one", "other"] Z_product 2 := by
  obtain ⟨fd, hf⟩ := fd_product F
  refine ⟨fd, hf, fn_F hf sc_product (fun i => [0, 1].contains i) rfl rfl _ (fun _ _ => rfl) fun cdv A outer s H E hc hci hr => ?_⟩
  have cdE := code_of hf hc hci
  have tk : Takes (cxOf (L2.CX P w) P w K mg base N_product "product" (defScope (top 40)) (He.ga K "product") cdv A outer s H E) (fun cls d _ H => E cls d H) := takes_of rfl rfl rfl rfl
  have nd : N_product.Nodup := sc_product.nd
  exact (sss_cons (ss_exp (se_fn (G_need_factor F B) hr tk [] (sa_cons (se_var (pv 0)) sa_nil)))
  (sss_cons (ss_exp (se_fn (G_need_factor F B) hr tk [] (sa_cons (se_var (pv 1)) sa_nil)))
  (sss_one (ss_ret (se_fn (G_least_of F B) hr tk [] (sa_cons (se_op op_addV v_add (se_fn (G_words_of F B) hr tk [] (sa_cons (se_var (pv 0)) sa_nil)) (se_fn (G_words_of F B) hr tk [] (sa_cons (se_var (pv 1)) sa_nil))) sa_nil))))))
theorem G_product (F : Fx w K mg) (B : Bx K mg base) : FnG P w K mg base (tb K) "product" 6 2 Z_product [] := by
  obtain ⟨fd, hf, h⟩ := o_product (P := P) (base := base) F B
  exact ⟨_, fd, _, [], [], h, g_product F, hf.kp, FunD.bindsN hf fun _ _ _ _ _ _ us hl => match us, hl with | [_, _], _ => rfl, .nil, fun _ => rfl⟩
def N_law : List Str := ["_law_script", "_law_at", "_law_bag_here", "_law_words", "_law_one", "_law_other", "_law_told", "_law_more", "_law_text_here", "_law_shorter", "_law_some", "_law_due", "_law_k", "_law_smaller"]
abbrev b_law_0 : MS := (sDrop (sSeq (sSet 10 (mCall Z__law_lesser [] [] [(mSl slS (mVar 9) none (some (mC (.int 3))))]))
  (sSeq (sIf (mTB (mOp2 gtD (mBi lenD [(mVar 9)]) (mBi lenD [(mVar 8)]))) (sRet (mC (.bl false))) sPass)
  (sSeq (sIf (mTB (mBi anyD [(mLc [12] (.nm 12) (mIt itR1 (mBi min2D [(mC (.int 60)), (mBi lenD [(mVar 10)])])) mYes (mCall Z_is_one_kind [] [] [(mOp2 ixD (mVar 10) (mCall Z__law_take [.bo, .lk] [] [(mVar 2), (mBi lenD [(mVar 10)])])), (mVar 9)]))])) (sRet (mC (.bl false))) sPass)
  (sIf (mAnd (mTB (mOp2 ltD (mBi lenD [(mVar 9)]) (mC (.int 3)))) (mTB (mBi anyD [(mLc [13] (.nm 13) (mIt itL (mVar 10)) mYes (mCall Z_is_one_kind [] [] [(mVar 13), (mVar 9)]))]))) (sRet (mC (.bl false))) sPass)))) [8, 9, 10])
abbrev b_law_1 : MS := (sDrop (sSeq (sSet 2 (mCall Z__law_bag [] [] [(mVar 0), (mVar 1)]))
  (sSeq (sSet 3 (mCall Z__law_of [.bo, .lk] [] [(mVar 2), (mLst [(mC (.str [76, 82, 65, 68, 83, 84, 78])), (mC (.str [68, 83, 84, 78])), (mC (.str [68, 83, 84])), (mC (.str [65, 68, 84])), (mC (.str [82, 68, 83, 84, 78])), (mC (.str [84, 78])), (mC (.str [76, 82, 65]))])]))
  (sSeq (sPar [4, 5] [(mCall Z__law_text [.bo, .lk, .lk] [] [(mVar 2), (mVar 3), (mC (.int 8))]), (mCall Z__law_text [.bo, .lk, .lk] [] [(mVar 2), (mVar 3), (mC (.int 30))])])
  (sSeq (sPar [6, 7] [(mCall Z_least [] [] [(mVar 4)]), (mCall Z_least [] [] [(mVar 5)])])
  (sSeq (sIf (mOr (mNot (mTru (mCall Z_is_one_kind [] [] [(mVar 4), (mVar 6)]))) (mOr (mNot (mTru (mCall Z_is_one_kind [] [] [(mVar 7), (mVar 5)]))) (mTB (mOp2 neD (mCall Z_least [] [] [(mVar 6)]) (mVar 6))))) (sRet (mC (.bl false))) sPass)
  (sSeq (sIf (mOr (mTB (mOp2 neD (mCall Z_product [] [] [(mVar 4), (mVar 5)]) (mCall Z_least [] [] [(mOp2 addD (mVar 4) (mVar 5))]))) (mTB (mOp2 neD (mCall Z_product [] [] [(mVar 6), (mVar 7)]) (mCall Z_product [] [] [(mVar 4), (mVar 7)])))) (sRet (mC (.bl false))) sPass)
  (sDrop (sFor (.tp [(.nm 8), (.nm 9)]) (mIt itL (mLst [(mTup [(mVar 4), (mVar 6)]), (mTup [(mVar 5), (mVar 7)])])) b_law_0) [8, 9, 10]))))))) [1, 2, 3, 4, 5, 6, 7, 8, 9, 10])
def m_law : MS := (sSeq (sDrop (sFor (.nm 1) (mIt itR1 (mBi max2D [(mC (.int 2)), (mBi min2D [(mC (.int 3)), (mBi lenD [(mVar 0)])])])) b_law_1) [1, 2, 3, 4, 5, 6, 7, 8, 9, 10])
  (sSeq (sSet 11 (mDct [(.s [], (mC (.str []))), (.s [32, 32, 32], (mC (.str [32]))), (.s [44, 44], (mC (.str [32]))), (.s [36, 36], (mC (.str [35]))), (.s [33, 36], (mC (.str [32, 35]))), (.s [49, 50, 44, 51], (mC (.str [48]))), (.s [49, 44, 44], (mC (.str [48, 32]))), (.s [35, 49], (mC (.str [35, 48]))), (.s [45, 49], (mC (.str [32, 48])))]))
  (sSeq (sPut 11 (mC (.str [97, 66, 99])) (mC (.str [43])))
  (sRet (mOp2 eqD (mLc [8] (.nm 8) (mItK 11) mYes (mCall Z_least [] [] [(mVar 8)])) (mOl1 valsL (mVar 11)))))))
def Z_law : Fn := runF (fun i => [0].contains i) 1 13 m_law
theorem sc_law : FnScope N_law ["_law_script"] (defScope (top 49)) := ⟨rfl, rfl, rfl, by decide +kernel, rfl, by decide +kernel, by decide +kernel⟩
theorem o_law (F : Fx w K mg) (B : Bx K mg base) : ∃ fd, FunD K "law" "law" (defArgs (top 49)) (defBody (top 49)) (defScope (top 49)) (d_law.dvs K) (d_law.kws K) (He.ga K "law") fd ∧ FO P w K mg base (tb K) 8 (He.ga K "law") fd ["_law_script"] Z_law 1 := by
  obtain ⟨fd, hf⟩ := fd_law F
  refine ⟨fd, hf, fn_F hf sc_law (fun i => [0].contains i) rfl rfl _ (fun _ _ => rfl) fun cdv A outer s H E hc hci hr => ?_⟩
  have cdE := code_of hf hc hci
  have tk : Takes (cxOf (L2.CX P w) P w K mg base N_law "law" (defScope (top 49)) (He.ga K "law") cdv A outer s H E) (fun cls d _ H => E cls d H) := takes_of rfl rfl rfl rfl
  have nd : N_law.Nodup := sc_law.nd
  exact (sss_cons (ss_drop [1, 2, 3, 4, 5, 6, 7, 8, 9, 10] (ss_for (passes_of rfl) rfl (si_rng1 rfl (n_range F) (se_bi (call_max2 rfl) b_max2 rfl (n_max F) boot_max (sa_cons se_int (sa_cons (se_bi (call_min2 rfl) b_min2 rfl (n_min F) boot_min (sa_cons se_int (sa_cons (se_bi call_lenV b_len rfl (n_len F) boot_len (sa_cons (se_var (pv 0)) sa_nil)) sa_nil))) sa_nil)))) (sg_name (i := 1) rfl nd rfl (by first | exact Or.inl rfl | exact Or.inr rfl)) (sss_drop [1, 2, 3, 4, 5, 6, 7, 8, 9, 10] (sss_cons (ss_set (i := 2) rfl nd rfl (by first | exact Or.inl rfl | exact Or.inr rfl) (se_fn (G__law_bag F B) hr tk [] (sa_cons (se_var (pv 0)) (sa_cons (se_var (pv 1)) sa_nil))))
  (sss_cons (ss_set (i := 3) rfl nd rfl (by first | exact Or.inl rfl | exact Or.inr rfl) (se_fn (G__law_of F B) hr tk [.bo, .lk] (sa_cons (se_var (pv 2)) (sa_cons (se_lst (sd_cons (se_str (l := [76, 82, 65, 68, 83, 84, 78])) (sd_cons (se_str (l := [68, 83, 84, 78])) (sd_cons (se_str (l := [68, 83, 84])) (sd_cons (se_str (l := [65, 68, 84])) (sd_cons (se_str (l := [82, 68, 83, 84, 78])) (sd_cons (se_str (l := [84, 78])) (sd_cons (se_str (l := [76, 82, 65])) sd_nil)))))))) sa_nil))))
  (sss_cons (ss_par (i := 4) (j := 5) rfl rfl rfl nd rfl rfl (by decide) rfl rfl (so_cons (se_fn (G__law_text F B) hr tk [.bo, .lk, .lk] (sa_cons (se_var (pv 2)) (sa_cons (se_var (pv 3)) (sa_cons se_int sa_nil)))) (so_cons (se_fn (G__law_text F B) hr tk [.bo, .lk, .lk] (sa_cons (se_var (pv 2)) (sa_cons (se_var (pv 3)) (sa_cons se_int sa_nil)))) so_nil)) (by rfl))
  (sss_cons (ss_par (i := 6) (j := 7) rfl rfl rfl nd rfl rfl (by decide) rfl rfl (so_cons (se_fn (G_least F B) hr tk [] (sa_cons (se_var (pv 4)) sa_nil)) (so_cons (se_fn (G_least F B) hr tk [] (sa_cons (se_var (pv 5)) sa_nil)) so_nil)) (by rfl))
  (sss_cons (ss_if (sw_pt (sw_or (sb_not (sb_tru (se_fn (G_is_one_kind F B) hr tk [] (sa_cons (se_var (pv 4)) (sa_cons (se_var (pv 6)) sa_nil))))) (sw_or (sb_not (sb_tru (se_fn (G_is_one_kind F B) hr tk [] (sa_cons (se_var (pv 7)) (sa_cons (se_var (pv 5)) sa_nil))))) (sw_or1 (sb_cmp (op_neP hr.units) v_ne (se_fn (G_least F B) hr tk [] (sa_cons (se_var (pv 6)) sa_nil)) (se_var (pv 6)) (nomark _)))))) (sss_one (ss_ret se_bl)) sss_nil)
  (sss_cons (ss_if (sw_pt (sw_or (sb_cmp (op_neP hr.units) v_ne (se_fn (G_product F B) hr tk [] (sa_cons (se_var (pv 4)) (sa_cons (se_var (pv 5)) sa_nil))) (se_fn (G_least F B) hr tk [] (sa_cons (se_op op_addV v_add (se_var (pv 4)) (se_var (pv 5))) sa_nil)) (nomark _)) (sw_or1 (sb_cmp (op_neP hr.units) v_ne (se_fn (G_product F B) hr tk [] (sa_cons (se_var (pv 6)) (sa_cons (se_var (pv 7)) sa_nil))) (se_fn (G_product F B) hr tk [] (sa_cons (se_var (pv 4)) (sa_cons (se_var (pv 7)) sa_nil))) (nomark _))))) (sss_one (ss_ret se_bl)) sss_nil)
  (sss_one (ss_drop [8, 9, 10] (ss_for (passes_of rfl) rfl (si_list (se_lst (sd_cons (se_tup (sd_cons (se_var (pv 4)) (sd_cons (se_var (pv 6)) sd_nil))) (sd_cons (se_tup (sd_cons (se_var (pv 5)) (sd_cons (se_var (pv 7)) sd_nil))) sd_nil)))) (sg_tup rfl (sgs_cons (sg_name (i := 8) rfl nd rfl (by first | exact Or.inl rfl | exact Or.inr rfl)) (sgs_cons (sg_name (i := 9) rfl nd rfl (by first | exact Or.inl rfl | exact Or.inr rfl)) sgs_nil))) (sss_drop [8, 9, 10] (sss_cons (ss_set (i := 10) rfl nd rfl (by first | exact Or.inl rfl | exact Or.inr rfl) (se_fn (G__law_lesser F B) hr tk [] (sa_cons (se_sl sl_str sl_S (se_var (pv 9)) spt_none (spt_some se_int)) sa_nil)))
  (sss_cons (ss_if (sb_cmp op_gtV v_gt (se_bi call_lenV b_len rfl (n_len F) boot_len (sa_cons (se_var (pv 9)) sa_nil)) (se_bi call_lenV b_len rfl (n_len F) boot_len (sa_cons (se_var (pv 8)) sa_nil)) (nomark _)) (sss_one (ss_ret se_bl)) sss_nil)
  (sss_cons (ss_if (sb_val (se_bi (cr_any rfl) b_any rfl (n_any F) boot_anyF (sa_cons (se_lc (own := [("_law_k", 12)]) rfl nd (si_rng1 rfl (n_range F) (se_bi (call_min2 rfl) b_min2 rfl (n_min F) boot_min (sa_cons se_int (sa_cons (se_bi call_lenV b_len rfl (n_len F) boot_len (sa_cons (se_var (pv 10)) sa_nil)) sa_nil)))) (blkOk_by (own := [("_law_k", 12)]) (N := N_law) (sc := defScope (top 49)) (by decide +kernel)) (fun _ _ _ _ _ => (sg_name (i := 12) rfl nd rfl (by first | exact Or.inl rfl | exact Or.inr rfl))) (fun _ _ _ _ _ => sts_nil) (fun _ _ _ _ _ => (se_fn (G_is_one_kind F B) hr no_takes [] (sa_cons (se_ix ix_seq v_ix (se_var (pv 10)) (se_fn (G__law_take F B) hr no_takes [.bo, .lk] (sa_cons (se_var (pv 2)) (sa_cons (se_bi call_lenV b_len rfl (n_len F) boot_len (sa_cons (se_var (pv 10)) sa_nil)) sa_nil))) (fun _ _ => rfl)) (sa_cons (se_var (pv 9)) sa_nil))))) sa_nil))) (sss_one (ss_ret se_bl)) sss_nil)
  (sss_one (ss_if (sw_pt (sw_and (sb_cmp op_ltV v_lt (se_bi call_lenV b_len rfl (n_len F) boot_len (sa_cons (se_var (pv 9)) sa_nil)) se_int (nomark _)) (sw_and1 (sb_val (se_bi (cr_any rfl) b_any rfl (n_any F) boot_anyF (sa_cons (se_lc (own := [("_law_smaller", 13)]) rfl nd (si_list (se_var (pv 10))) (blkOk_by (own := [("_law_smaller", 13)]) (N := N_law) (sc := defScope (top 49)) (by decide +kernel)) (fun _ _ _ _ _ => (sg_name (i := 13) rfl nd rfl (by first | exact Or.inl rfl | exact Or.inr rfl))) (fun _ _ _ _ _ => sts_nil) (fun _ _ _ _ _ => (se_fn (G_is_one_kind F B) hr no_takes [] (sa_cons (se_var (pv 13)) (sa_cons (se_var (pv 9)) sa_nil))))) sa_nil)))))) (sss_one (ss_ret se_bl)) sss_nil))))))))))))))))))
  (sss_cons (ss_set (i := 11) rfl nd rfl (by first | exact Or.inl rfl | exact Or.inr rfl) (se_dct (sdc_cons (k := .s []) pe_str (se_str (l := [])) (sdc_cons (k := .s [32, 32, 32]) pe_str (se_str (l := [32])) (sdc_cons (k := .s [44, 44]) pe_str (se_str (l := [32])) (sdc_cons (k := .s [36, 36]) pe_str (se_str (l := [35])) (sdc_cons (k := .s [33, 36]) pe_str (se_str (l := [32, 35])) (sdc_cons (k := .s [49, 50, 44, 51]) pe_str (se_str (l := [48])) (sdc_cons (k := .s [49, 44, 44]) pe_str (se_str (l := [48, 32])) (sdc_cons (k := .s [35, 49]) pe_str (se_str (l := [35, 48])) (sdc_cons (k := .s [45, 49]) pe_str (se_str (l := [32, 48])) sdc_nil)))))))))))
  (sss_cons (ss_put (i := 11) (u1 hr) (pv 11) (se_str (l := [97, 66, 99])) (se_str (l := [43])))
  (sss_one (ss_ret (se_cmp (op_eqP hr.units) v_eq (se_lc (own := [("_law_text_here", 8)]) rfl nd (si_keys (i := 11) (pv 11)) (blkOk_by (own := [("_law_text_here", 8)]) (N := N_law) (sc := defScope (top 49)) (by decide +kernel)) (fun _ _ _ _ _ => (sg_name (i := 8) rfl nd rfl (by first | exact Or.inl rfl | exact Or.inr rfl))) (fun _ _ _ _ _ => sts_nil) (fun _ _ _ _ _ => (se_fn (G_least F B) hr no_takes [] (sa_cons (se_var (pv 8)) sa_nil)))) (se_listVals rfl rfl (n_list F) (se_var (pv 11))) (nomark _)))))))
end
end F
end

section
set_option linter.all false
set_option autoImplicit false
set_option maxRecDepth 100000
/-! kinds: classes, states, what a text does (plain) -/
namespace F
inductive Kd where | L | R | A | D | S | T | N
  deriving DecidableEq
def Kd.c : Kd → Nat | .L => 76 | .R => 82 | .A => 65 | .D => 68 | .S => 83 | .T => 84 | .N => 78
def Kd.d (k : Kd) : F.D := .str [k.c]
inductive Sg where | L | R | A
  deriving DecidableEq
def Sg.c : Sg → Nat | .L => 76 | .R => 82 | .A => 65
inductive Tl where | e | digit | joined | run | sign
  deriving DecidableEq
def Tl.c : Tl → List Nat | .e => [] | .digit => [100, 105, 103, 105, 116] | .joined => [106, 111, 105, 110, 101, 100] | .run => [114, 117, 110] | .sign => [115, 105, 103, 110]
structure Sx where
  s : Sg
  t : Tl
  deriving DecidableEq
def Sx.d (x : Sx) : F.D := .tup [.str [x.s.c], .str x.t.c]
def Sx.nx (x : Sx) : Kd → Sx
  | .L => ⟨.L, .e⟩
  | .R => ⟨.R, .e⟩
  | .A => ⟨.A, .e⟩
  | .D => ⟨x.s, .digit⟩
  | .S => ⟨x.s, if x.t = .digit then .sign else .e⟩
  | .T => ⟨x.s, if (x.t = .digit ∨ x.t = .joined) ∧ x.s ≠ .A then .joined else .run⟩
  | .N => ⟨x.s, .e⟩
def Sx.fold (x : Sx) (ws : List Kd) : Sx := ws.foldl Sx.nx x
def Sx.ok (x : Sx) : Bool := !(decide (x.s = .A) && decide (x.t = .joined))
theorem Sx.ok_nx (x : Sx) (k : Kd) (h : x.ok = true) : (x.nx k).ok = true := by
  obtain ⟨s, t⟩ := x
  cases s <;> cases t <;> cases k <;> first | rfl | exact absurd h (by decide)
theorem Sx.ok_fold : ∀ (ws : List Kd) (x : Sx), x.ok = true → (x.fold ws).ok = true
  | [], x, h => h
  | k :: ws, x, h => Sx.ok_fold ws (x.nx k) (Sx.ok_nx x k h)
theorem Sx.fold_app (x : Sx) (a b : List Kd) : x.fold (a ++ b) = (x.fold a).fold b := List.foldl_append
def all14 : List Sx := [⟨.A, .e⟩, ⟨.A, .digit⟩, ⟨.A, .run⟩, ⟨.A, .sign⟩, ⟨.L, .e⟩, ⟨.L, .digit⟩, ⟨.L, .joined⟩, ⟨.L, .run⟩, ⟨.L, .sign⟩, ⟨.R, .e⟩, ⟨.R, .digit⟩, ⟨.R, .joined⟩, ⟨.R, .run⟩, ⟨.R, .sign⟩]
theorem mem14 (x : Sx) : x ∈ all14 ↔ x.ok = true := by
  obtain ⟨s, t⟩ := x
  cases s <;> cases t <;> decide
/-! what waits -/
inductive Lt where | N | S | T
  deriving DecidableEq
def Lt.d : Lt → F.D | .N => .str [78] | .S => .str [83] | .T => .str [84]
inductive Fr where | dig | i0 | i1 | l (x : Lt)
  deriving DecidableEq
def Fr.d : Fr → F.D | .dig => .str [100, 105, 103, 105, 116] | .i0 => .int 0 | .i1 => .int 1 | .l x => x.d
def dirF : Sg → Fr | .L => .i0 | _ => .i1
def toldF (s : Sg) : Kd → Fr
  | .L => .i0
  | .R => .i1
  | .A => .i1
  | .D => dirF s
  | _ => .l .N
def fateF : Lt → Sg → Kd → Fr
  | .S, _, .D => .dig
  | .T, .L, .D => .dig
  | .T, .R, .D => .dig
  | .T, _, .T => .l .T
  | _, s, k => toldF s k
def fwF : Lt → Sx → List Kd → Fr
  | l, _, [] => .l l
  | l, st, k :: ws => match fateF l st.s k with
    | .l x => fwF x (st.nx k) ws
    | r => r
theorem fw_app : ∀ (a b : List Kd) (l : Lt) (st : Sx), fwF l st (a ++ b) = match fwF l st a with
    | .l x => fwF x (st.fold a) b
    | r => r
  | [], b, l, st => rfl
  | k :: a, b, l, st => by
    show (match fateF l st.s k with
      | .l x => fwF x (st.nx k) (a ++ b)
      | r => r) = (match (match fateF l st.s k with
        | .l x => fwF x (st.nx k) a
        | r => r) with
      | .l x => fwF x ((st.nx k).fold a) b
      | r => r)
    cases h : fateF l st.s k with
    | l x => exact fw_app a b x (st.nx k)
    | _ => rfl
/-- the entry of a state -/
def neuF (st : Sx) (ws : List Kd) : Option Fr := if st.t = .e ∨ st.t = .run then (match fwF .N st ws with | .l .N => none | r => some r) else none
def waiF (st : Sx) (ws : List Kd) : Option Fr := if st.t = .run ∨ st.t = .sign then (match fwF (if st.t = .sign then .S else .T) st ws with | .l .S => none | .l .T => none | r => some r) else none
def oD : Option Fr → F.D
  | none => .non
  | some r => r.d
def entD (st : Sx) (ws : List Kd) : F.D := .tup [(st.fold ws).d, oD (neuF st ws), oD (waiF st ws)]
/-! the lead -/
def Kd.st : Kd → Bool | .L | .R | .A => true | _ => false
def leadO (w : List Kd) : Option Bool := (w.find? Kd.st).map fun k => decide (k ≠ .L)
def leadD (w : List Kd) : F.D := match leadO w with
  | none => .non
  | some b => .int (if b then 1 else 0)
theorem lead_app (a b : List Kd) : leadO (a ++ b) = (leadO a).or (leadO b) := by
  unfold leadO
  rw [List.find?_append]
  cases a.find? Kd.st <;> rfl
/-! least texts -/
/-- what stands ahead of the first digit of a weak text -/
inductive Hd where | no | z | tz | nz
  deriving DecidableEq
def Hd.c : Hd → List Nat | .no => [] | .z => [48] | .tz => [35, 48] | .nz => [32, 48]
/-- weak texts without digits -/
inductive Wk where | emp | s1 | ts | nt | n
  deriving DecidableEq
def Wk.c : Wk → List Nat | .emp => [] | .s1 => [44] | .ts => [35] | .nt => [32, 35] | .n => [32]
/-- the kinds -/
inductive Q where
  | w (k : Wk) | d (h : Hd) (t : Tl) | s (h : Hd) (f l : Sg) (t : Tl)
  deriving DecidableEq
def Wk.hd : Wk → Hd | .emp => .z | .ts => .tz | _ => .nz
def Sg.of : Kd → Sg | .R => .R | .A => .A | _ => .L
def Q.hd0 : Q → Hd
  | .w _ => .no
  | .d h _ => h
  | .s h _ _ _ => h
def Q.nx : Q → Kd → Q
  | .w k, .D => .d k.hd .digit
  | .w .emp, .S => .w .s1
  | .w .emp, .T => .w .ts
  | .w .ts, .T => .w .ts
  | .w _, .T => .w .nt
  | .w _, .S => .w .n
  | .w _, .N => .w .n
  | .d h t, .L => .s h .L .L .e
  | .d h t, .R => .s h .R .R .e
  | .d h t, .A => .s h .R .A .e
  | .d h t, k => .d h ((Sx.mk .L t).nx k).t
  | .w _, .L => .s .no .L .L .e
  | .w _, .R => .s .no .R .R .e
  | .w _, .A => .s .no .R .A .e
  | .s h f l t, k => .s h f ((Sx.mk l t).nx k).s ((Sx.mk l t).nx k).t
def Q.run (w : List Kd) : Q := w.foldl Q.nx (.w .emp)

def Sg.lc : Sg → Nat | .L => 43 | .R => 42 | .A => 78
def Tl.beh : Tl → List Nat | .e => [32] | .digit => [] | .sign => [44] | .joined => [35] | .run => [32, 35]
def Tl.fin : Tl → List Nat | .e => [] | .digit => [48] | .sign => [48, 44] | .joined => [48, 35] | .run => [35]
def ltrs (f l : Sg) : List Nat := if decide (f = .L) = decide (l = .L) then [l.lc] else [if f = .L then 43 else 42, l.lc]
def Q.least : Q → List Nat
  | .w k => k.c
  | .d h t => h.c ++ t.beh
  | .s h f l t => h.c ++ ltrs f l ++ t.fin
def Q.ok : Q → Bool
  | .w _ => true
  | .d h _ => !decide (h = .no)
  | .s _ f l t => !decide (f = .A) && (Sx.mk l t).ok
/-! letters that the law draws -/
def alpha : List Nat := [97, 98, 120, 122, 43, 65, 66, 77, 42, 78, 81, 90, 48, 49, 55, 57, 44, 46, 58, 36, 35, 32, 33, 45, 40, 93, 50, 51, 99]
def kd (c : Nat) : Kd := if [48, 49, 50, 51, 55, 57].contains c then .D else if [44, 46, 58].contains c then .S else if [36, 35].contains c then .T else if [32, 33, 45, 40, 93].contains c then .N else if [97, 98, 99, 120, 122, 43].contains c then .L else if [78, 81, 90].contains c then .A else .R
def hds : List Hd := [.no, .z, .tz, .nz]
def tls : List Tl := [.e, .digit, .joined, .run, .sign]
def sgs : List Sg := [.L, .R, .A]
def kds : List Kd := [.L, .R, .A, .D, .S, .T, .N]
def allQ : List Q := [Wk.emp, .s1, .ts, .nt, .n].map Q.w ++ hds.flatMap (fun h => tls.map fun t => Q.d h t) ++ hds.flatMap fun h => sgs.flatMap fun f => sgs.flatMap fun l => tls.map fun t => Q.s h f l t
theorem memH (h : Hd) : h ∈ hds := by cases h <;> decide
theorem memT (t : Tl) : t ∈ tls := by cases t <;> decide
theorem memG (g : Sg) : g ∈ sgs := by cases g <;> decide
theorem memK (k : Kd) : k ∈ kds := by cases k <;> decide
set_option maxHeartbeats 2000000 in
theorem memQ (q : Q) : q ∈ allQ := by
  unfold allQ
  cases q with
  | w k => cases k <;> decide
  | d h t => exact List.mem_append_left _ (List.mem_append_right _ (List.mem_flatMap.mpr ⟨h, memH h, List.mem_map.mpr ⟨t, memT t, rfl⟩⟩))
  | s h f l t => exact List.mem_append_right _ (List.mem_flatMap.mpr ⟨h, memH h, List.mem_flatMap.mpr ⟨f, memG f, List.mem_flatMap.mpr ⟨l, memG l, List.mem_map.mpr ⟨t, memT t, rfl⟩⟩⟩⟩)
def okQ : List Q := allQ.filter Q.ok
theorem mem_okQ {q : Q} (h : q.ok = true) : q ∈ okQ := List.mem_filter.mpr ⟨memQ q, h⟩
theorem ok_nx {q : Q} {k : Kd} (h : q.ok = true) : (q.nx k).ok = true := by
  have key : (okQ.all fun q => kds.all fun k => (q.nx k).ok) = true := by decide +kernel
  exact List.all_eq_true.mp (List.all_eq_true.mp key q (mem_okQ h)) k (memK k)
def Q.fold (q : Q) (w : List Kd) : Q := w.foldl Q.nx q
theorem ok_fold : ∀ (w : List Kd) {q : Q}, q.ok = true → (q.fold w).ok = true
  | [], q, h => h
  | k :: w, q, h => ok_fold w (ok_nx (k := k) h)
theorem ok_run (w : List Kd) : (Q.run w).ok = true := ok_fold w (q := .w .emp) rfl
theorem run_app (a b : List Kd) : Q.run (a ++ b) = (Q.run a).fold b := List.foldl_append
/-- the classes of a kind's least text -/
def Q.lw (q : Q) : List Kd := q.least.map kd
theorem run_lw {q : Q} (h : q.ok = true) : Q.run q.lw = q := by
  have key : (okQ.all fun q => decide (Q.run q.lw = q)) = true := by decide +kernel
  exact of_decide_eq_true (List.all_eq_true.mp key q (mem_okQ h))
theorem least_al {q : Q} (h : q.ok = true) : (∀ c ∈ q.least, c ∈ alpha) ∧ q.least.length ≤ 6 := by
  have key : (okQ.all fun q => decide (∀ c ∈ q.least, c ∈ alpha) && decide (q.least.length ≤ 6)) = true := by decide +kernel
  have := List.all_eq_true.mp key q (mem_okQ h)
  rw [Bool.and_eq_true] at this
  exact ⟨of_decide_eq_true this.1, of_decide_eq_true this.2⟩
theorem s_fold (h : Hd) (f : Sg) : ∀ (w : List Kd) (x : Sx), (Q.s h f x.s x.t).fold w = .s h f (x.fold w).s (x.fold w).t
  | [], x => rfl
  | k :: w, x => by
    show ((Q.s h f x.s x.t).nx k).fold w = .s h f ((x.nx k).fold w).s ((x.nx k).fold w).t
    exact s_fold h f w (x.nx k)
def Q.reh (h : Hd) : Q → Q
  | .w k => .w k
  | .d _ t => .d h t
  | .s _ f l t => .s h f l t
def Q.isW : Q → Bool | .w _ => true | _ => false
theorem nx_reh (h : Hd) (q : Q) (k : Kd) (hw : q.isW = false) : (q.reh h).nx k = (q.nx k).reh h ∧ (q.nx k).isW = false := by
  cases q with
  | w _ => cases hw
  | d h2 t => cases k <;> exact ⟨rfl, rfl⟩
  | s h2 f l t => exact ⟨rfl, rfl⟩
theorem fold_reh (h : Hd) : ∀ (w : List Kd) (q : Q), q.isW = false → (q.reh h).fold w = (q.fold w).reh h
  | [], q, _ => rfl
  | k :: w, q, hw => by
    show ((q.reh h).nx k).fold w = ((q.nx k).fold w).reh h
    rw [(nx_reh h q k hw).1, fold_reh h w _ (nx_reh h q k hw).2]
theorem fold_isW : ∀ (w : List Kd) (q : Q), q.isW = false → (q.fold w).isW = false
  | [], q, h => h
  | k :: w, q, h => fold_isW w _ (nx_reh .no q k h).2
theorem act_x {x : Sx} {r : Q} {k : Kd} (hx : x.ok = true) (hr : r.ok = true) : x.fold (r.nx k).lw = (x.fold r.lw).nx k := by
  have key : (all14.all fun x => okQ.all fun r => kds.all fun k => decide (x.fold (r.nx k).lw = (x.fold r.lw).nx k)) = true := by decide +kernel
  exact of_decide_eq_true (List.all_eq_true.mp (List.all_eq_true.mp (List.all_eq_true.mp key x ((mem14 x).mpr hx)) r (mem_okQ hr)) k (memK k))
theorem act_w {w : Wk} {r : Q} {k : Kd} (hr : r.ok = true) : (Q.w w).fold (r.nx k).lw = ((Q.w w).fold r.lw).nx k := by
  have key : ([Wk.emp, .s1, .ts, .nt, .n].all fun w => okQ.all fun r => kds.all fun k => decide ((Q.w w).fold (r.nx k).lw = ((Q.w w).fold r.lw).nx k)) = true := by decide +kernel
  exact of_decide_eq_true (List.all_eq_true.mp (List.all_eq_true.mp (List.all_eq_true.mp key w (by cases w <;> decide)) r (mem_okQ hr)) k (memK k))
theorem act_d {t : Tl} {r : Q} {k : Kd} (hr : r.ok = true) : (Q.d .z t).fold (r.nx k).lw = ((Q.d .z t).fold r.lw).nx k := by
  have key : (tls.all fun t => okQ.all fun r => kds.all fun k => decide ((Q.d .z t).fold (r.nx k).lw = ((Q.d .z t).fold r.lw).nx k)) = true := by decide +kernel
  exact of_decide_eq_true (List.all_eq_true.mp (List.all_eq_true.mp (List.all_eq_true.mp key t (memT t)) r (mem_okQ hr)) k (memK k))
/-- a text of the kind r behind the kind q -/
theorem act {q r : Q} {k : Kd} (hq : q.ok = true) (hr : r.ok = true) : q.fold (r.nx k).lw = (q.fold r.lw).nx k := by
  cases q with
  | w w => exact act_w hr
  | d h t =>
    have e : Q.d h t = (Q.d .z t).reh h := rfl
    rw [e, fold_reh h _ _ rfl, fold_reh h _ _ rfl, act_d hr]
    exact ((nx_reh h _ k (fold_isW _ _ rfl)).1).symm
  | s h f l t =>
    have hx : (Sx.mk l t).ok = true := by
      have : (!decide (f = .A) && (Sx.mk l t).ok) = true := hq
      rw [Bool.and_eq_true] at this
      exact this.2
    rw [s_fold h f _ ⟨l, t⟩, s_fold h f _ ⟨l, t⟩, act_x hx hr]
    rfl
theorem fold_run {q : Q} (hq : q.ok = true) : ∀ (w : List Kd) {r : Q}, r.ok = true → q.fold (r.fold w).lw = (q.fold r.lw).fold w
  | [], r, _ => rfl
  | k :: w, r, hr => by
    show q.fold ((r.nx k).fold w).lw = ((q.fold r.lw).nx k).fold w
    rw [fold_run hq w (ok_nx hr), act hq hr]
/-- only the kind of what follows matters -/
theorem run_right (a b : List Kd) : Q.run (a ++ (Q.run b).lw) = Q.run (a ++ b) := by
  rw [run_app, run_app]
  exact fold_run (ok_run a) b (r := .w .emp) rfl
theorem run_left (a b : List Kd) : Q.run ((Q.run a).lw ++ b) = Q.run (a ++ b) := by
  rw [run_app, run_app, run_lw (ok_run a)]
end F
end

section
set_option linter.all false
set_option autoImplicit false
set_option maxRecDepth 100000
/-! kinds: the program's least text is the kind's -/
namespace F
theorem split_fst {α : Type} (P : α → Bool) : ∀ w : List α, (∀ k ∈ w, P k = false) ∨ ∃ a k b, w = a ++ k :: b ∧ (∀ x ∈ a, P x = false) ∧ P k = true
  | [] => .inl (fun _ h => by cases h)
  | x :: w => by
    cases hx : P x with
    | true => exact .inr ⟨[], x, w, rfl, (fun _ h => by cases h), hx⟩
    | false =>
      rcases split_fst P w with h | ⟨a, k, b, rfl, h1, h2⟩
      · exact .inl fun k hk => by
          rcases List.mem_cons.mp hk with rfl | hk
          · exact hx
          · exact h k hk
      · exact .inr ⟨x :: a, k, b, rfl, fun y hy => by
          rcases List.mem_cons.mp hy with rfl | hy
          · exact hx
          · exact h1 y hy, h2⟩
theorem split_lst {α : Type} (P : α → Bool) (w : List α) : (∀ k ∈ w, P k = false) ∨ ∃ a k b, w = a ++ k :: b ∧ (∀ x ∈ b, P x = false) ∧ P k = true := by
  rcases split_fst P w.reverse with h | ⟨a, k, b, e, h1, h2⟩
  · exact .inl fun k hk => h k (List.mem_reverse.mpr hk)
  · refine .inr ⟨b.reverse, k, a.reverse, ?_, fun x hx => h1 x (List.mem_reverse.mp hx), h2⟩
    rw [← List.reverse_reverse w, e]
    simp
def kD (k : Kd) : Bool := decide (k = .D)
def wkOf (w : List Kd) : Wk := if w = [] then .emp else if w = [.S] then .s1 else if w.all (fun k => decide (k = .T)) = true then .ts else if w.getLast? = some .T then .nt else .n
def Kd.mk0 (k : Kd) : Bool := decide (k = .S) || decide (k = .T) || decide (k = .N)
theorem mk0_of {k : Kd} (h1 : k.st = false) (h2 : kD k = false) : k.mk0 = true := by
  cases k <;> first | rfl | exact absurd h1 (by decide) | exact absurd h2 (by decide)
theorem snoc_ind {α : Type} {P : List α → Prop} (h0 : P []) (h1 : ∀ l a, P l → P (l ++ [a])) (l : List α) : P l := by
  rw [← List.reverse_reverse l]
  induction l.reverse with
  | nil => exact h0
  | cons a r ih => rw [List.reverse_cons]; exact h1 _ _ ih
theorem wk_snoc (w : List Kd) (k : Kd) (hw : ∀ k ∈ w, k.mk0 = true) (hk : k.mk0 = true) : (Q.w (wkOf w)).nx k = .w (wkOf (w ++ [k])) := by
  have ne : (w ++ [k] = []) = False := by simp
  have la : (w ++ [k]).getLast? = some k := by simp
  have al : (w ++ [k]).all (fun k => decide (k = .T)) = (w.all (fun k => decide (k = .T)) && decide (k = .T)) := by simp
  conv => rhs; unfold wkOf
  rw [if_neg (by simp), la, al]
  have one : (w ++ [k] = [Kd.S]) ↔ (w = [] ∧ k = .S) := by
    constructor
    · intro h
      cases w with
      | nil => exact ⟨rfl, by simpa using h⟩
      | cons a w => simp at h
    · rintro ⟨rfl, rfl⟩
      rfl
  rcases w with _ | ⟨a, w⟩
  · cases k <;> first | rfl | exact absurd hk (by decide)
  · rw [if_neg (fun h => by have := one.mp h; exact absurd this.1 (by simp))]
    unfold wkOf
    rw [if_neg (by simp)]
    have ha := hw a (List.mem_cons_self ..)
    by_cases h1 : a :: w = [.S]
    · rw [if_pos h1, h1]
      cases k <;> first | rfl | exact absurd hk (by decide)
    · rw [if_neg h1]
      by_cases h2 : (a :: w).all (fun k => decide (k = .T)) = true
      · rw [if_pos h2, h2]
        cases k <;> first | rfl | exact absurd hk (by decide)
      · rw [if_neg h2]
        have h2 : (a :: w).all (fun k => decide (k = .T)) = false := by simpa using h2
        rw [h2]
        by_cases h3 : (a :: w).getLast? = some .T
        · rw [if_pos h3]
          cases k <;> first | rfl | exact absurd hk (by decide)
        · rw [if_neg h3]
          cases k <;> first | rfl | exact absurd hk (by decide)
theorem run_wk (w : List Kd) : (∀ k ∈ w, k.mk0 = true) → Q.run w = .w (wkOf w) := by
  refine snoc_ind (P := fun w => (∀ k ∈ w, k.mk0 = true) → Q.run w = .w (wkOf w)) (fun _ => rfl) (fun w k ih h => ?_) w
  rw [run_app, ih fun x hx => h x (List.mem_append_left _ hx)]
  exact wk_snoc w k (fun x hx => h x (List.mem_append_left _ hx)) (h k (by simp))
theorem d_fold (h : Hd) : ∀ (b : List Kd) (t : Tl), (∀ k ∈ b, k.st = false) → (Q.d h t).fold b = .d h ((Sx.mk .L t).fold b).t ∧ ((Sx.mk .L t).fold b).s = .L
  | [], t, _ => ⟨rfl, rfl⟩
  | k :: b, t, hb => by
    have hk := hb k (List.mem_cons_self ..)
    have e : (Sx.mk .L t).nx k = ⟨.L, ((Sx.mk .L t).nx k).t⟩ := by cases k <;> first | rfl | exact absurd hk (by decide)
    have e2 : (Q.d h t).nx k = .d h ((Sx.mk .L t).nx k).t := by cases k <;> first | rfl | exact absurd hk (by decide)
    have ih := d_fold h b ((Sx.mk .L t).nx k).t fun x hx => hb x (List.mem_cons_of_mem _ hx)
    show ((Q.d h t).nx k).fold b = .d h (((Sx.mk .L t).nx k).fold b).t ∧ (((Sx.mk .L t).nx k).fold b).s = .L
    rw [e2, e]
    exact ih
/-- a weak text with digits: a, the first digit, b; u, the last digit, v -/
theorem run_dig (a b u v : List Kd) (e : a ++ .D :: b = u ++ .D :: v) (ha : ∀ k ∈ a, k.mk0 = true) (hb : ∀ k ∈ a ++ .D :: b, k.st = false) : Q.run (a ++ .D :: b) = .d (wkOf a).hd ((Sx.mk .L .digit).fold v).t := by
  have h1 : Q.run (a ++ .D :: b) = .d (wkOf a).hd ((Sx.mk .L .digit).fold b).t := by
    rw [run_app, run_wk a ha]
    show (Q.d (wkOf a).hd .digit).fold b = _
    exact (d_fold _ b .digit fun k hk => hb k (by simp [hk])).1
  rw [h1]
  congr 1
  -- the last digit forgets what stands ahead
  have key : ∀ (x : Sx), x.s = .L → (∀ k ∈ u, k.st = false) → x.fold (u ++ .D :: v) = (Sx.mk .L .digit).fold v := by
    intro x hx hu
    rw [Sx.fold_app]
    have hs : (x.fold u).s = .L := by
      have := (d_fold .z u x.t hu).2
      obtain ⟨s, t⟩ := x
      cases hx
      exact this
    show ((x.fold u).nx .D).fold v = _
    have : (x.fold u).nx .D = ⟨.L, .digit⟩ := by
      show Sx.mk (x.fold u).s .digit = _
      rw [hs]
    rw [this]
  have hu : ∀ k ∈ u, k.st = false := fun k hk => hb k (by rw [e]; simp [hk])
  have k1 := key ⟨.L, .e⟩ rfl hu
  rw [← e, Sx.fold_app] at k1
  have hs : ((Sx.mk .L .e).fold a).s = .L := (d_fold .z a .e fun k hk => hb k (by simp [hk])).2
  have k2 : ((Sx.mk .L .e).fold a).nx .D = ⟨.L, .digit⟩ := by
    show Sx.mk ((Sx.mk .L .e).fold a).s .digit = _
    rw [hs]
  have k3 : (((Sx.mk .L .e).fold a).nx .D).fold b = (Sx.mk .L .digit).fold v := k1
  rw [k2] at k3
  rw [k3]
theorem weak_s : ∀ (v : List Kd) (x : Sx), (∀ k ∈ v, k.st = false) → (x.fold v).s = x.s
  | [], x, _ => rfl
  | k :: v, x, h => by
    have hk := h k (List.mem_cons_self ..)
    have := weak_s v (x.nx k) fun y hy => h y (List.mem_cons_of_mem _ hy)
    show ((x.nx k).fold v).s = x.s
    rw [this]
    cases k <;> first | rfl | exact absurd hk (by decide)
def Kd.sg : Kd → Sg | .R => .R | .A => .A | _ => .L
theorem st_fold (x : Sx) (u v : List Kd) (k : Kd) (h : k.st = true) : x.fold (u ++ k :: v) = (Sx.mk k.sg .e).fold v := by
  rw [Sx.fold_app]
  show ((x.fold u).nx k).fold v = _
  cases k <;> first | rfl | exact absurd h (by decide)
def hdOf (p : List Kd) : Hd := (Q.run p).hd0
def fsg (k : Kd) : Sg := if k = .L then .L else .R
/-- a text with strong ones: p, the first, r; u, the last, v -/
theorem run_str (p r u v : List Kd) (k l : Kd) (e : p ++ k :: r = u ++ l :: v) (hv : ∀ x ∈ v, x.st = false) (hp : ∀ x ∈ p, x.st = false) (hk : k.st = true) (hl : l.st = true) : Q.run (p ++ k :: r) = .s (hdOf p) (fsg k) l.sg ((Sx.mk l.sg .e).fold v).t := by
  have h0 := st_fold ⟨.L, .e⟩ p r k hk
  have h1 := st_fold ⟨.L, .e⟩ u v l hl
  rw [e] at h0
  have h2 := h0.symm.trans h1
  have hq : ∀ q : Q, (∀ h f l t, q ≠ .s h f l t) → q.nx k = .s q.hd0 (fsg k) k.sg .e := fun q hq => by
    cases q with
    | w w => cases k <;> first | rfl | exact absurd hk (by decide) | (cases w <;> rfl)
    | d h t => cases k <;> first | rfl | exact absurd hk (by decide)
    | s h f l t => exact absurd rfl (hq h f l t)
  have hns : ∀ h f l t, Q.run p ≠ .s h f l t := by
    intro h f l t z
    have key : ∀ (p : List Kd) (q : Q), (∀ x ∈ p, x.st = false) → (∀ h f l t, q ≠ .s h f l t) → ∀ h f l t, q.fold p ≠ .s h f l t := by
      intro p
      induction p with
      | nil => exact fun q _ hq => hq
      | cons a p ih =>
        intro q hp hq
        refine ih (q.nx a) (fun x hx => hp x (List.mem_cons_of_mem _ hx)) fun h f l t z => ?_
        have ha := hp a (List.mem_cons_self ..)
        cases q with
        | w w => cases a <;> cases w <;> first | exact absurd ha (by decide) | cases z
        | d h t => cases a <;> first | exact absurd ha (by decide) | cases z
        | s h f l t => exact hq h f l t rfl
    exact key p (.w .emp) hp (fun _ _ _ _ z => by cases z) h f l t z
  rw [run_app]
  show ((Q.run p).nx k).fold r = _
  rw [hq _ hns, s_fold _ _ r ⟨k.sg, .e⟩, h2, weak_s v _ hv]
  rfl
end F
end

section
set_option linter.all false
set_option autoImplicit false
set_option maxRecDepth 100000
set_option maxHeartbeats 1000000
/-! kinds: the program's defs -/
namespace F
abbrev wS (w : List Kd) : F.D := .str (w.map Kd.c)
theorem z_next (x : Sx) (k : Kd) : Z_next_state [.sh x.d, .sh k.d] = .rt (.sh (x.nx k).d) [.sh x.d, .sh k.d] := by
  obtain ⟨s, t⟩ := x
  cases k <;> cases s <;> cases t <;> rfl
theorem it_w (w : List Kd) : itS (wS w) = some (w.map Kd.d) := by
  show some _ = some _
  rw [List.map_map]
  rfl
theorem z_read (x : Sx) (w : List Kd) : Z_read_in [.sh x.d, .sh (wS w)] = .rt (.sh (x.fold w).d) [.sh (x.fold w).d, .sh (wS w)] := by
  have h := (for_fold (enc := Kd.d) (g := fun x : Sx => [some (.sh x.d), some (.sh (wS w)), none]) (step := Sx.nx) (I := fun _ => True) (t := .nm 2) (body := b_read_in_0) (as := w) (s := x) (fun s a _ _ => ⟨⟨_, rfl, by
    simp only [b_read_in_0, runF, gdO, finR, endF, allO, sSeq, sSet, setR, sOf, leak, mNextS, andThen, mVar, mC, slot, peek, peeks, nrm, O.pk, O.frz, mIf, mTB, mTru, mAnd, mOr, mNot, mOp1, mOp2, mOl1, mOl2, mTup, mLst, mLks, mDct, mDvs, mBi, mBl, mRs, mSm0, mSm1, mSl, mSlL, mPt, mIt, mItZ, zipR, mCall, asArgs, asArg, back, ofRes, mergeO, ofO, ofOS, sIf, sRet, sRetN, sPass, sExp, sAug, sUnp, sPar, sAsg2, sSto, sBrk, sCnt, sFor, sDrop, sMatch, mtL, mOs, setAll, sPut, mItK, mMut0, mMut1, wipeE, unwipe, lcEnd, mLc, mBad, sBad, mNotV, mAndV, mOrV, Tg.put, putAll, List.map_cons, List.map_nil, List.replicate, List.cons_append, List.nil_append, List.getElem?_cons_zero, List.getElem?_cons_succ, Option.bind_some, List.set_cons_zero, List.set_cons_succ, List.take_succ_cons, List.take_zero, List.headD_cons, List.headD_nil, List.tail_cons, List.tail_nil, Option.map_some, Option.map_none, if_true, if_false, Bool.false_eq_true, ite_true, ite_false, Bool.not_true, Bool.not_false, Bool.true_and, Bool.false_and, List.contains, List.elem, List.append_nil, List.length_cons, List.length_nil, Nat.zero_add, Nat.reduceAdd, Nat.reduceLeDiff, lim, Nat.reduceBEq, beq_self_eq_true, Bool.and_self, z_next]⟩, trivial⟩) trivial).1
  simp only [Z_read_in, m_read_in, runF, gdO, finR, endF, allO, sSeq, sSet, setR, sOf, leak, mNextS, andThen, mVar, mC, slot, peek, peeks, nrm, O.pk, O.frz, mIf, mTB, mTru, mAnd, mOr, mNot, mOp1, mOp2, mOl1, mOl2, mTup, mLst, mLks, mDct, mDvs, mBi, mBl, mRs, mSm0, mSm1, mSl, mSlL, mPt, mIt, mItZ, zipR, mCall, asArgs, asArg, back, ofRes, mergeO, ofO, ofOS, sIf, sRet, sRetN, sPass, sExp, sAug, sUnp, sPar, sAsg2, sSto, sBrk, sCnt, sFor, sDrop, sMatch, mtL, mOs, setAll, sPut, mItK, mMut0, mMut1, wipeE, unwipe, lcEnd, mLc, mBad, sBad, mNotV, mAndV, mOrV, Tg.put, putAll, List.map_cons, List.map_nil, List.replicate, List.cons_append, List.nil_append, List.getElem?_cons_zero, List.getElem?_cons_succ, Option.bind_some, List.set_cons_zero, List.set_cons_succ, List.take_succ_cons, List.take_zero, List.headD_cons, List.headD_nil, List.tail_cons, List.tail_nil, Option.map_some, Option.map_none, if_true, if_false, Bool.false_eq_true, ite_true, ite_false, Bool.not_true, Bool.not_false, Bool.true_and, Bool.false_and, List.contains, List.elem, List.append_nil, List.length_cons, List.length_nil, Nat.zero_add, Nat.reduceAdd, Nat.reduceLeDiff, lim, Nat.reduceBEq, beq_self_eq_true, Bool.and_self, it_w, h, Sx.fold]
theorem c_inj {k j : Kd} : k.c = j.c ↔ k = j := by cases k <;> cases j <;> decide
theorem mem_c {w : List Kd} {k : Kd} : k.c ∈ w.map Kd.c ↔ k ∈ w := by
  rw [List.mem_map]
  exact ⟨fun ⟨j, h, e⟩ => (c_inj.mp e) ▸ h, fun h => ⟨k, h, rfl⟩⟩
theorem fst_c (k : Kd) : ∀ a b : List Kd, k ∉ a → fstIx k.c ((a ++ k :: b).map Kd.c) = some a.length
  | [], b, _ => by simp [fstIx]
  | x :: a, b, h => by
    have h1 : x ≠ k := fun z => h (z ▸ List.mem_cons_self ..)
    simp only [List.cons_append, List.map_cons, fstIx]
    rw [if_neg (fun z => h1 (c_inj.mp z)), fst_c k a b fun z => h (List.mem_cons_of_mem _ z)]
    rfl
theorem lst_none (k : Kd) : ∀ b : List Kd, k ∉ b → lstIx k.c (b.map Kd.c) = none
  | [], _ => rfl
  | x :: b, h => by
    simp only [List.map_cons, lstIx, lst_none k b fun z => h (List.mem_cons_of_mem _ z)]
    exact if_neg fun z => h (by rw [c_inj.mp z]; exact List.mem_cons_self ..)
theorem lst_c (k : Kd) : ∀ a b : List Kd, k ∉ b → lstIx k.c ((a ++ k :: b).map Kd.c) = some a.length
  | [], b, h => by
    simp only [List.nil_append, List.map_cons, lstIx, lst_none k b h, if_true]
    rfl
  | x :: a, b, h => by
    simp only [List.cons_append, List.map_cons, lstIx, lst_c k a b h]
    rfl
theorem cut_to {α : Type} (l : List α) (c : Nat) (h : c ≤ l.length) : cut l none (some (c : Int)) = l.take c := by
  unfold cut
  have h1 : cutI l.length l.length (some (c : Int)) = c := by
    show (if (c : Int) < 0 then ((c : Int) + (l.length : Int)).toNat else min (c : Int).toNat l.length) = _
    rw [if_neg (by omega)]
    omega
  rw [h1]
  rfl
theorem cut_fr {α : Type} (l : List α) (c : Nat) (h : c ≤ l.length) : cut l (some (c : Int)) none = l.drop c := by
  unfold cut
  have h1 : cutI l.length 0 (some (c : Int)) = c := by
    show (if (c : Int) < 0 then ((c : Int) + (l.length : Int)).toNat else min (c : Int).toNat l.length) = _
    rw [if_neg (by omega)]
    omega
  rw [h1, show cutI l.length l.length none = l.length from rfl]
  exact List.take_of_length_le (by rw [List.length_drop]; omega)
theorem cut_to_w (a b : List Kd) : cut ((a ++ b).map Kd.c) none (some (a.length : Int)) = a.map Kd.c := by
  rw [cut_to _ _ (by simp), List.map_append, List.take_left' (by simp)]
theorem cut_fr_w (a b : List Kd) (k : Kd) : cut ((a ++ k :: b).map Kd.c) (some ((a.length : Int) + 1)) none = b.map Kd.c := by
  have e : (a.length : Int) + 1 = ((a.length + 1 : Nat) : Int) := by omega
  rw [e, cut_fr _ _ (by simp)]
  have : (a ++ k :: b).map Kd.c = (a.map Kd.c ++ [k.c]) ++ b.map Kd.c := by simp
  rw [this, List.drop_left' (by simp)]
theorem eq_strs (x y : List Nat) : eqD (.str x) (.str y) = some (.bl (x == y)) := rfl
theorem ne_strs (x y : List Nat) : neD (.str x) (.str y) = some (.bl (!(x == y))) := rfl
theorem lc_T (e0 e1 : Option O) (a : List Kd) : lcL [2] (.nm 2) mYes (mOp2 eqD (mVar 2) (mC (.str [84]))) (a.map Kd.d) [] [e0, e1, none] = .ok (a.map fun k => F.D.bl (decide (k = .T))) [e0, e1, none] := by
  have h := lc_map (enc := Kd.d) (own := [2]) (t := .nm 2) (c := mYes) (v := mOp2 eqD (mVar 2) (mC (.str [84]))) (e := [e0, e1, none]) (f := fun k => F.D.bl (decide (k = .T))) (as := a) (acc := []) (fun k _ => by cases k <;> rfl)
  simpa using h
theorem bls_map {α : Type} (f : α → Bool) : ∀ l : List α, blsOf (l.map fun a => F.D.bl (f a)) = some (l.map f)
  | [] => rfl
  | a :: l => by
    show (blsOf (l.map fun a => F.D.bl (f a))).map (f a :: ·) = _
    rw [bls_map f l]
    rfl
theorem all_id {α : Type} (f : α → Bool) (l : List α) : (l.map f).all id = l.all f := by rw [List.all_map]; rfl
theorem nil_or_app {α : Type} (l : List α) : l = [] ∨ ∃ q d, l = q ++ [d] := by
  cases h : l.reverse with
  | nil => exact .inl (List.reverse_eq_nil_iff.mp h)
  | cons s r => exact .inr ⟨r.reverse, s, by rw [← List.reverse_reverse l, h, List.reverse_cons]⟩
theorem z_head {w : List Kd} (hw : ∀ k ∈ w, k.st = false) (hl : w.length ≤ 1000) : Z_head_of [.sh (wS w)] = .rt (.sh (.str (hdOf w).c)) [.sh (wS w)] := by
  rcases split_fst kD w with h | ⟨a, k, b, rfl, h1, h2⟩
  · have n : Kd.D ∉ w := fun z => by have := h _ z; exact absurd this (by decide)
    have n' : (68 ∈ w.map Kd.c) = False := eq_false fun z => n (mem_c (k := .D) |>.mp z)
    have e : hdOf w = .no := by
      unfold hdOf
      rw [run_wk w fun k hk => mk0_of (hw k hk) (h k hk)]
      rfl
    rw [e]
    simp only [Z_head_of, m_head_of, runF, gdO, finR, endF, allO, sSeq, sSet, setR, sOf, leak, mNextS, andThen, mVar, mC, slot, peek, peeks, nrm, O.pk, O.frz, mIf, mTB, mTru, mAnd, mOr, mNot, mOp1, mOp2, mOl1, mOl2, mTup, mLst, mLks, mDct, mDvs, mBi, mBl, mRs, mSm0, mSm1, mSl, mSlL, mPt, mIt, mItZ, zipR, mCall, asArgs, asArg, back, ofRes, mergeO, ofO, ofOS, sIf, sRet, sRetN, sPass, sExp, sAug, sUnp, sPar, sAsg2, sSto, sBrk, sCnt, sFor, sDrop, sMatch, mtL, mOs, setAll, sPut, mItK, mMut0, mMut1, wipeE, unwipe, lcEnd, mLc, mBad, sBad, mNotV, mAndV, mOrV, Tg.put, putAll, List.map_cons, List.map_nil, List.replicate, List.cons_append, List.nil_append, List.getElem?_cons_zero, List.getElem?_cons_succ, Option.bind_some, List.set_cons_zero, List.set_cons_succ, List.take_succ_cons, List.take_zero, List.headD_cons, List.headD_nil, List.tail_cons, List.tail_nil, Option.map_some, Option.map_none, if_true, if_false, Bool.false_eq_true, ite_true, ite_false, Bool.not_true, Bool.not_false, Bool.true_and, Bool.false_and, List.contains, List.elem, List.append_nil, List.length_cons, List.length_nil, Nat.zero_add, Nat.reduceAdd, Nat.reduceLeDiff, lim, Nat.reduceBEq, beq_self_eq_true, Bool.and_self, ninD, inB, n', decide_false]
    rfl
  · have hk : k = .D := by cases k <;> first | rfl | exact absurd h2 (by decide)
    subst hk
    have na : Kd.D ∉ a := fun z => by have := h1 _ z; exact absurd this (by decide)
    have n' : (68 ∈ (a ++ Kd.D :: b).map Kd.c) = True := eq_true (mem_c (k := .D) |>.mpr (by simp))
    have f' : fstIx 68 ((a ++ Kd.D :: b).map Kd.c) = some a.length := fst_c .D a b na
    have e : hdOf (a ++ .D :: b) = (wkOf a).hd := by
      rcases split_lst kD (a ++ .D :: b) with h | ⟨u, k, v, e, h3, h4⟩
      · exact absurd (h .D (by simp)) (by decide)
      · have hk : k = .D := by cases k <;> first | rfl | exact absurd h4 (by decide)
        subst hk
        unfold hdOf
        rw [run_dig a b u v e (fun k hk => mk0_of (hw k (by simp [hk])) (h1 k hk)) hw]
        rfl
    rw [e]
    have la : (a.length ≤ 16777216) = True := eq_true (Nat.le_trans (by simp at hl; omega : a.length ≤ 1000) (by decide))
    have i : itS (.str (a.map Kd.c)) = some (a.map Kd.d) := it_w a
    unfold wS
    have key : ∀ x : Bool, (a ≠ []) → a.all (fun k => decide (k = .T)) = x → (wkOf a).hd.c = if x = true then [35, 48] else [32, 48] := by
      intro x ha hx
      unfold wkOf
      rw [if_neg ha]
      by_cases h1 : a = [.S]
      · rw [if_pos h1]; subst h1; cases hx; rfl
      · rw [if_neg h1, hx]
        cases x
        · by_cases h2 : a.getLast? = some .T
          · simp [h2]; rfl
          · simp [h2]; rfl
        · rfl
    have c1 := cut_to_w a (.D :: b)
    have lt := fun e0 e1 => lc_T e0 e1 a
    have l2 : (a.map Kd.d).length = a.length := List.length_map _
    generalize (a ++ Kd.D :: b).map Kd.c = X at n' f' c1 ⊢
    by_cases ha : a = []
    · subst ha
      simp only [Z_head_of, m_head_of, runF, gdO, finR, endF, allO, sSeq, sSet, setR, sOf, leak, mNextS, andThen, mVar, mC, slot, peek, peeks, nrm, O.pk, O.frz, mIf, mTB, mTru, mAnd, mOr, mNot, mOp1, mOp2, mOl1, mOl2, mTup, mLst, mLks, mDct, mDvs, mBi, mBl, mRs, mSm0, mSm1, mSl, mSlL, mPt, mIt, mItZ, zipR, mCall, asArgs, asArg, back, ofRes, mergeO, ofO, ofOS, sIf, sRet, sRetN, sPass, sExp, sAug, sUnp, sPar, sAsg2, sSto, sBrk, sCnt, sFor, sDrop, sMatch, mtL, mOs, setAll, sPut, mItK, mMut0, mMut1, wipeE, unwipe, lcEnd, mLc, mBad, sBad, mNotV, mAndV, mOrV, Tg.put, putAll, List.map_cons, List.map_nil, List.replicate, List.cons_append, List.nil_append, List.getElem?_cons_zero, List.getElem?_cons_succ, Option.bind_some, List.set_cons_zero, List.set_cons_succ, List.take_succ_cons, List.take_zero, List.headD_cons, List.headD_nil, List.tail_cons, List.tail_nil, Option.map_some, Option.map_none, if_true, if_false, Bool.false_eq_true, ite_true, ite_false, Bool.not_true, Bool.not_false, Bool.true_and, Bool.false_and, List.contains, List.elem, List.append_nil, List.length_cons, List.length_nil, Nat.zero_add, Nat.reduceAdd, Nat.reduceLeDiff, lim, Nat.reduceBEq, beq_self_eq_true, Bool.and_self, ninD, inB, n', decide_true, find_sign, f', slS, c1, eq_strs]
      rfl
    · generalize hx : a.all (fun k => decide (k = .T)) = x at key
      rw [key x ha rfl]
      have h4 : (a.map Kd.c == []) = false := by
        cases a with
        | nil => exact absurd rfl ha
        | cons q a => rfl
      have ab := bls_map (fun k : Kd => decide (k = .T)) a
      generalize a.map Kd.c = Y at c1 i h4
      generalize a.map Kd.d = I at i lt l2
      simp only [Z_head_of, m_head_of, runF, gdO, finR, endF, allO, sSeq, sSet, setR, sOf, leak, mNextS, andThen, mVar, mC, slot, peek, peeks, nrm, O.pk, O.frz, mIf, mTB, mTru, mAnd, mOr, mNot, mOp1, mOp2, mOl1, mOl2, mTup, mLst, mLks, mDct, mDvs, mBi, mBl, mRs, mSm0, mSm1, mSl, mSlL, mPt, mIt, mItZ, zipR, mCall, asArgs, asArg, back, ofRes, mergeO, ofO, ofOS, sIf, sRet, sRetN, sPass, sExp, sAug, sUnp, sPar, sAsg2, sSto, sBrk, sCnt, sFor, sDrop, sMatch, mtL, mOs, setAll, sPut, mItK, mMut0, mMut1, wipeE, unwipe, lcEnd, mLc, mBad, sBad, mNotV, mAndV, mOrV, Tg.put, putAll, List.map_cons, List.map_nil, List.replicate, List.cons_append, List.nil_append, List.getElem?_cons_zero, List.getElem?_cons_succ, Option.bind_some, List.set_cons_zero, List.set_cons_succ, List.take_succ_cons, List.take_zero, List.headD_cons, List.headD_nil, List.tail_cons, List.tail_nil, Option.map_some, Option.map_none, if_true, if_false, Bool.false_eq_true, ite_true, ite_false, Bool.not_true, Bool.not_false, Bool.true_and, Bool.false_and, List.contains, List.elem, List.append_nil, List.length_cons, List.length_nil, Nat.zero_add, Nat.reduceAdd, Nat.reduceLeDiff, lim, Nat.reduceBEq, beq_self_eq_true, Bool.and_self, ninD, inB, n', decide_true, find_sign, f', slS, c1, eq_strs, h4, i, l2, la, lt, allD, ab, all_id, hx]
      cases x <;> rfl

theorem inD_2 (x a b : List Nat) : inD (.str x) (.tup [.str a, .str b]) = some (.bl (a == x || b == x)) := by
  have e : inB (.str x) (.tup [.str a, .str b]) = some ([F.D.str a, .str b].any fun y => eqB y (.str x)) := by
    rcases x with _ | ⟨k, _ | ⟨j, x⟩⟩ <;> rfl
  show (inB _ _).map _ = _
  rw [e]
  simp [eqB]
theorem inD_sign (k : Nat) (y : List Nat) : inD (.str [k]) (.str y) = some (.bl (decide (k ∈ y))) := rfl
theorem ix_last (w : List Kd) (k : Kd) : ixD (.str ((w ++ [k]).map Kd.c)) (.int (-1)) = some (.str [k.c]) := by
  show (getI ((w ++ [k]).map Kd.c) (-1)).map _ = _
  rw [List.map_append, List.map_cons, List.map_nil, getI_last]
  rfl
theorem add_str {x y : List Nat} (h : x.length + y.length ≤ F.lim) : addD (.str x) (.str y) = some (.str (x ++ y)) := if_pos h
theorem add_int (i j : Int) : addD (.int i) (.int j) = some (.int (i + j)) := rfl
theorem tab_beh (t : Tl) : tabD c_BEHIND_DIGIT (.str t.c) = some (.str t.beh) := by cases t <;> rfl
theorem tab_fin (t : Tl) : tabD c_ENDINGS (.str t.c) = some (.str t.fin) := by cases t <;> rfl
theorem sx_at1 (x : Sx) : ixD x.d (.int 1) = some (.str x.t.c) := rfl
theorem hd_len (h : Hd) : h.c.length ≤ 2 := by cases h <;> decide
theorem beh_len (t : Tl) : t.beh.length ≤ 2 := by cases t <;> decide
theorem fin_len (t : Tl) : t.fin.length ≤ 2 := by cases t <;> decide
theorem ltrs_len (f l : Sg) : (ltrs f l).length ≤ 2 := by cases f <;> cases l <;> decide
theorem map_eq1 {w : List Kd} {k : Kd} : (w.map Kd.c == [k.c]) = decide (w = [k]) := by
  rcases w with _ | ⟨a, _ | ⟨b, w⟩⟩
  · rfl
  · cases a <;> cases k <;> rfl
  · rw [decide_eq_false (by simp)]
    rw [beq_eq_false_iff_ne]
    simp
theorem map_eq0 {w : List Kd} : (w.map Kd.c == []) = decide (w = []) := by cases w <;> rfl
theorem map_eq0' {w : List Kd} : ([] == w.map Kd.c) = decide (w = []) := by cases w <;> rfl
theorem map_eq1' {w : List Kd} {k : Kd} : ([k.c] == w.map Kd.c) = decide (w = [k]) := by
  rw [← map_eq1, Bool.eq_iff_iff]
  simp only [beq_iff_eq]
  exact eq_comm
theorem z_weak {w : List Kd} (hw : ∀ k ∈ w, k.st = false) (hl : w.length ≤ 1000) : Z_least_weak [.sh (wS w)] = .rt (.sh (.str (Q.run w).least)) [.sh (wS w)] := by
  have la : (w.length ≤ 16777216) = True := eq_true (Nat.le_trans hl (by decide))
  have hh := z_head hw hl
  rcases split_fst kD w with h | ⟨a, k, b, rfl, h1, h2⟩
  · have n : Kd.D ∉ w := fun z => by have := h _ z; exact absurd this (by decide)
    have n' : (68 ∈ w.map Kd.c) = False := eq_false fun z => n (mem_c (k := .D) |>.mp z)
    rw [run_wk w fun k hk => mk0_of (hw k hk) (h k hk)]
    show _ = FR.rt (.sh (.str (wkOf w).c)) _
    have i : itS (.str (w.map Kd.c)) = some (w.map Kd.d) := it_w w
    have lt := fun e0 e1 => lc_T e0 e1 w
    have l2 : (w.map Kd.d).length = w.length := List.length_map _
    have ab := bls_map (fun k : Kd => decide (k = .T)) w
    have q0 := map_eq0 (w := w)
    have q0' := map_eq0' (w := w)
    have q1 : ([83] == w.map Kd.c) = decide (w = [.S]) := map_eq1' (k := .S)
    unfold wkOf
    unfold wS
    by_cases g0 : w = []
    · subst g0
      rfl
    rw [if_neg g0]
    rw [decide_eq_false g0] at q0 q0'
    by_cases g1 : w = [.S]
    · subst g1
      rfl
    rw [if_neg g1]
    rw [decide_eq_false g1] at q1
    rcases nil_or_app w with g | ⟨p, l, rfl⟩
    · exact absurd g g0
    have il := ix_last p l
    have lg : (p ++ [l]).getLast? = some l := by simp
    rw [lg]
    generalize hx : (p ++ [l]).all (fun k => decide (k = .T)) = x
    generalize (p ++ [l]).map Kd.c = X at *
    generalize (p ++ [l]).map Kd.d = I at *
    cases x with
    | true =>
      simp only [Z_least_weak, m_least_weak, runF, gdO, finR, endF, allO, sSeq, sSet, setR, sOf, leak, mNextS, andThen, mVar, mC, slot, peek, peeks, nrm, O.pk, O.frz, mIf, mTB, mTru, mAnd, mOr, mNot, mOp1, mOp2, mOl1, mOl2, mTup, mLst, mLks, mDct, mDvs, mBi, mBl, mRs, mSm0, mSm1, mSl, mSlL, mPt, mIt, mItZ, zipR, mCall, asArgs, asArg, back, ofRes, mergeO, ofO, ofOS, sIf, sRet, sRetN, sPass, sExp, sAug, sUnp, sPar, sAsg2, sSto, sBrk, sCnt, sFor, sDrop, sMatch, mtL, mOs, setAll, sPut, mItK, mMut0, mMut1, wipeE, unwipe, lcEnd, mLc, mBad, sBad, mNotV, mAndV, mOrV, Tg.put, putAll, List.map_cons, List.map_nil, List.replicate, List.cons_append, List.nil_append, List.getElem?_cons_zero, List.getElem?_cons_succ, Option.bind_some, List.set_cons_zero, List.set_cons_succ, List.take_succ_cons, List.take_zero, List.headD_cons, List.headD_nil, List.tail_cons, List.tail_nil, Option.map_some, Option.map_none, if_true, if_false, Bool.false_eq_true, ite_true, ite_false, Bool.not_true, Bool.not_false, Bool.true_and, Bool.false_and, List.contains, List.elem, List.append_nil, List.length_cons, List.length_nil, Nat.zero_add, Nat.reduceAdd, Nat.reduceLeDiff, lim, Nat.reduceBEq, beq_self_eq_true, Bool.and_self, inD_sign, n', decide_false, inD_2, q0', q1, i, l2, la, lt, allD, ab, all_id, hx, Bool.or_self]
      rfl
    | false =>
      simp only [Z_least_weak, m_least_weak, runF, gdO, finR, endF, allO, sSeq, sSet, setR, sOf, leak, mNextS, andThen, mVar, mC, slot, peek, peeks, nrm, O.pk, O.frz, mIf, mTB, mTru, mAnd, mOr, mNot, mOp1, mOp2, mOl1, mOl2, mTup, mLst, mLks, mDct, mDvs, mBi, mBl, mRs, mSm0, mSm1, mSl, mSlL, mPt, mIt, mItZ, zipR, mCall, asArgs, asArg, back, ofRes, mergeO, ofO, ofOS, sIf, sRet, sRetN, sPass, sExp, sAug, sUnp, sPar, sAsg2, sSto, sBrk, sCnt, sFor, sDrop, sMatch, mtL, mOs, setAll, sPut, mItK, mMut0, mMut1, wipeE, unwipe, lcEnd, mLc, mBad, sBad, mNotV, mAndV, mOrV, Tg.put, putAll, List.map_cons, List.map_nil, List.replicate, List.cons_append, List.nil_append, List.getElem?_cons_zero, List.getElem?_cons_succ, Option.bind_some, List.set_cons_zero, List.set_cons_succ, List.take_succ_cons, List.take_zero, List.headD_cons, List.headD_nil, List.tail_cons, List.tail_nil, Option.map_some, Option.map_none, if_true, if_false, Bool.false_eq_true, ite_true, ite_false, Bool.not_true, Bool.not_false, Bool.true_and, Bool.false_and, List.contains, List.elem, List.append_nil, List.length_cons, List.length_nil, Nat.zero_add, Nat.reduceAdd, Nat.reduceLeDiff, lim, Nat.reduceBEq, beq_self_eq_true, Bool.and_self, inD_sign, n', decide_false, inD_2, q0', q1, i, l2, la, lt, allD, ab, all_id, hx, Bool.or_self, negD, il, eq_strs]
      cases l <;> rfl
  · have hk : k = .D := by cases k <;> first | rfl | exact absurd h2 (by decide)
    subst hk
    rcases split_lst kD (a ++ .D :: b) with h | ⟨u, k, v, e, h3, h4⟩
    · exact absurd (h .D (by simp)) (by decide)
    have hk : k = .D := by cases k <;> first | rfl | exact absurd h4 (by decide)
    subst hk
    have n' : (68 ∈ (a ++ Kd.D :: b).map Kd.c) = True := eq_true (mem_c (k := .D) |>.mpr (by simp))
    have rd := run_dig a b u v e (fun k hk => mk0_of (hw k (by simp [hk])) (h1 k hk)) hw
    have ho : hdOf (a ++ .D :: b) = (wkOf a).hd := by unfold hdOf; rw [rd]; rfl
    rw [rd]
    rw [ho] at hh
    rw [e] at n' hh ⊢
    have f : lstIx 68 ((u ++ Kd.D :: v).map Kd.c) = some u.length := lst_c .D u v fun z => absurd (h3 _ z) (by decide)
    have c1 := cut_fr_w u v .D
    have zr : Z_read_in [.sh (.tup [.str [76], .str [100, 105, 103, 105, 116]]), .sh (.str (v.map Kd.c))] = _ := z_read ⟨.L, .digit⟩ v
    show _ = FR.rt (.sh (.str ((wkOf a).hd.c ++ ((Sx.mk .L .digit).fold v).t.beh))) _
    generalize (Sx.mk .L .digit).fold v = S at *
    have s1 := sx_at1 S
    have tb := tab_beh S.t
    have ad := add_str (x := (wkOf a).hd.c) (y := S.t.beh) (Nat.le_trans (Nat.add_le_add (hd_len _) (beh_len _)) (by decide))
    unfold wS at hh ⊢
    generalize (u ++ Kd.D :: v).map Kd.c = X at *
    generalize v.map Kd.c = V at *
    generalize (wkOf a).hd.c = Hh at *
    generalize S.t.beh = Bh at *
    generalize S.t.c = Tc at *
    generalize S.d = Sd at *
    simp only [Z_least_weak, m_least_weak, runF, gdO, finR, endF, allO, sSeq, sSet, setR, sOf, leak, mNextS, andThen, mVar, mC, slot, peek, peeks, nrm, O.pk, O.frz, mIf, mTB, mTru, mAnd, mOr, mNot, mOp1, mOp2, mOl1, mOl2, mTup, mLst, mLks, mDct, mDvs, mBi, mBl, mRs, mSm0, mSm1, mSl, mSlL, mPt, mIt, mItZ, zipR, mCall, asArgs, asArg, back, ofRes, mergeO, ofO, ofOS, sIf, sRet, sRetN, sPass, sExp, sAug, sUnp, sPar, sAsg2, sSto, sBrk, sCnt, sFor, sDrop, sMatch, mtL, mOs, setAll, sPut, mItK, mMut0, mMut1, wipeE, unwipe, lcEnd, mLc, mBad, sBad, mNotV, mAndV, mOrV, Tg.put, putAll, List.map_cons, List.map_nil, List.replicate, List.cons_append, List.nil_append, List.getElem?_cons_zero, List.getElem?_cons_succ, Option.bind_some, List.set_cons_zero, List.set_cons_succ, List.take_succ_cons, List.take_zero, List.headD_cons, List.headD_nil, List.tail_cons, List.tail_nil, Option.map_some, Option.map_none, if_true, if_false, Bool.false_eq_true, ite_true, ite_false, Bool.not_true, Bool.not_false, Bool.true_and, Bool.false_and, List.contains, List.elem, List.append_nil, List.length_cons, List.length_nil, Nat.zero_add, Nat.reduceAdd, Nat.reduceLeDiff, lim, Nat.reduceBEq, beq_self_eq_true, Bool.and_self, inD_sign, n', decide_true, rfind_sign, f, add_int, slS, c1, hh, c_DIGIT, zr, s1, tb, ad]

/-! the strong ones' places -/
def idxs : Nat → List Kd → List F.D
  | _, [] => []
  | n, k :: w => if k.st = true then .int (n : Nat) :: idxs (n + 1) w else idxs (n + 1) w
theorem idxs_app : ∀ (a b : List Kd) (n : Nat), idxs n (a ++ b) = idxs n a ++ idxs (n + a.length) b
  | [], b, n => by simp [idxs]
  | k :: a, b, n => by
    have ih := idxs_app a b (n + 1)
    have e : n + 1 + a.length = n + (a.length + 1) := by omega
    simp only [List.cons_append, idxs, ih, e, List.length_cons]
    split <;> rfl
theorem idxs_no : ∀ (a : List Kd) (n : Nat), (∀ k ∈ a, k.st = false) → idxs n a = []
  | [], _, _ => rfl
  | k :: a, n, h => by
    unfold idxs
    rw [h k (List.mem_cons_self ..), idxs_no a (n + 1) fun x hx => h x (List.mem_cons_of_mem _ hx)]
    rfl
theorem idxs_pl : ∀ (w : List Kd) (n : Nat), pls (idxs n w) = true
  | [], _ => rfl
  | k :: w, n => by
    unfold idxs
    split
    · exact idxs_pl w (n + 1)
    · exact idxs_pl w (n + 1)
theorem lc_idx (e0 : Option O) : ∀ (w : List Kd) (n : Nat) (acc : List F.D), lcL [6, 7] (.tp [(.nm 6), (.nm 7)]) (mTB (mOp2 inD (mVar 7) (mC (.str c_STRONG)))) (mVar 6) (enumF n (w.map Kd.d)) acc [e0, none, none, none, none, none, none, none] = .ok (acc ++ idxs n w) [e0, none, none, none, none, none, none, none]
  | [], n, acc => by simp [lcL, enumF, idxs]
  | k :: w, n, acc => by
    have h : lcOne [6, 7] (.tp [(.nm 6), (.nm 7)]) (mTB (mOp2 inD (mVar 7) (mC (.str c_STRONG)))) (mVar 6) (.tup [.int (n : Nat), k.d]) [e0, none, none, none, none, none, none, none] = some (if k.st = true then some (.int (n : Nat)) else none, [e0, none, none, none, none, none, none, none]) := by
      cases k <;> rfl
    rw [List.map_cons]
    unfold enumF
    rw [lc_eq h, lc_idx e0 w (n + 1)]
    conv => rhs; unfold idxs
    split <;> simp
theorem itES_w (w : List Kd) : itES (.str (w.map Kd.c)) = some (enumF 0 (w.map Kd.d)) := by
  show some (enumF 0 ((w.map Kd.c).map fun k => F.D.str [k])) = _
  rw [List.map_map]
  rfl
theorem ix_at (a b : List Kd) (k : Kd) : ixD (.str ((a ++ k :: b).map Kd.c)) (.int (a.length : Nat)) = some (.str [k.c]) := by
  show (getI ((a ++ k :: b).map Kd.c) (a.length : Nat)).map _ = _
  unfold getI ixI
  rw [if_pos (by omega), if_pos (by rw [List.length_map, List.length_append, List.length_cons]; omega)]
  simp
theorem ix_head (d : F.D) (l : List F.D) : ixD (.lst (d :: l)) (.int 0) = some d := by
  show getI (d :: l) 0 = _
  unfold getI ixI
  rw [if_pos (by decide), if_pos (by rw [List.length_cons]; omega)]
  rfl
theorem ix_lastL (d : F.D) (l : List F.D) : ixD (.lst (l ++ [d])) (.int (-1)) = some d := getI_last l d
theorem z_least_of {w : List Kd} (hl : w.length ≤ 1000) : Z_least_of [.sh (wS w)] = .rt (.sh (.str (Q.run w).least)) [.sh (wS w)] := by
  have la : (w.length ≤ 16777216) = True := eq_true (Nat.le_trans hl (by decide))
  have i := itES_w w
  have l2 : ((enumF 0 (w.map Kd.d)).length ≤ 16777216) = True := by rw [enumF_len, List.length_map]; exact la
  have lt := fun e0 => lc_idx e0 w 0 []
  rcases split_fst Kd.st w with h | ⟨p, k, r, e, h1, h2⟩
  · have zw := z_weak h hl
    rw [idxs_no w 0 h] at lt
    have en := eq_nil (l := []) rfl
    unfold wS at zw ⊢
    generalize w.map Kd.c = X at *
    generalize enumF 0 (w.map Kd.d) = I at *
    simp only [Z_least_of, m_least_of, runF, gdO, finR, endF, allO, sSeq, sSet, setR, sOf, leak, mNextS, andThen, mVar, mC, slot, peek, peeks, nrm, O.pk, O.frz, mIf, mTB, mTru, mAnd, mOr, mNot, mOp1, mOp2, mOl1, mOl2, mTup, mLst, mLks, mDct, mDvs, mBi, mBl, mRs, mSm0, mSm1, mSl, mSlL, mPt, mIt, mItZ, zipR, mCall, asArgs, asArg, back, ofRes, mergeO, ofO, ofOS, sIf, sRet, sRetN, sPass, sExp, sAug, sUnp, sPar, sAsg2, sSto, sBrk, sCnt, sFor, sDrop, sMatch, mtL, mOs, setAll, sPut, mItK, mMut0, mMut1, wipeE, unwipe, lcEnd, mLc, mBad, sBad, mNotV, mAndV, mOrV, Tg.put, putAll, List.map_cons, List.map_nil, List.replicate, List.cons_append, List.nil_append, List.getElem?_cons_zero, List.getElem?_cons_succ, Option.bind_some, List.set_cons_zero, List.set_cons_succ, List.take_succ_cons, List.take_zero, List.headD_cons, List.headD_nil, List.tail_cons, List.tail_nil, Option.map_some, Option.map_none, if_true, if_false, Bool.false_eq_true, ite_true, ite_false, Bool.not_true, Bool.not_false, Bool.true_and, Bool.false_and, List.contains, List.elem, List.append_nil, List.length_cons, List.length_nil, Nat.zero_add, Nat.reduceAdd, Nat.reduceLeDiff, lim, Nat.reduceBEq, beq_self_eq_true, Bool.and_self, i, l2, lt, en, List.isEmpty, zw]
  · rcases split_lst Kd.st w with h | ⟨u, l, v, e', h3, h4⟩
    · exact absurd (h k (by rw [e]; simp)) (by rw [h2]; decide)
    have rs := run_str p r u v k l (e.symm.trans e') h3 h1 h2 h4
    rw [← e] at rs
    rw [rs]
    have j1 : ∃ q, idxs 0 w = .int (p.length : Nat) :: q := ⟨idxs (0 + p.length + 1) r, by
      rw [e, idxs_app, idxs_no p 0 h1]
      show idxs (0 + p.length) (k :: r) = _
      rw [idxs, if_pos h2, Nat.zero_add]⟩
    have j2 : ∃ q, idxs 0 w = q ++ [.int (u.length : Nat)] := ⟨idxs 0 u, by
      rw [e', idxs_app]
      congr 1
      rw [idxs, if_pos h4, Nat.zero_add, idxs_no v _ h3]⟩
    obtain ⟨q1, j1⟩ := j1
    obtain ⟨q2, j2⟩ := j2
    have x1 : ixD (.lst (idxs 0 w)) (.int 0) = some (.int (p.length : Nat)) := by rw [j1]; exact ix_head _ _
    have x2 : ixD (.lst (idxs 0 w)) (.int (-1)) = some (.int (u.length : Nat)) := by rw [j2]; exact ix_lastL _ _
    have en := eq_nil (idxs_pl w 0)
    have em : (idxs 0 w).isEmpty = false := by rw [j1]; rfl
    rw [em] at en
    have y1 : ixD (.str (w.map Kd.c)) (.int (p.length : Nat)) = some (.str [k.c]) := by rw [e]; exact ix_at p r k
    have y2 : ixD (.str (w.map Kd.c)) (.int (u.length : Nat)) = some (.str [l.c]) := by rw [e']; exact ix_at u v l
    have c1 : cut (w.map Kd.c) none (some (p.length : Int)) = p.map Kd.c := by rw [e]; exact cut_to_w p _
    have c2 : cut (w.map Kd.c) (some ((u.length : Int) + 1)) none = v.map Kd.c := by rw [e']; exact cut_fr_w u v l
    have zh := z_head (w := p) h1 (by rw [e] at hl; simp at hl; omega)
    have zr : Z_read_in [.sh (.tup [.str [l.sg.c], .str []]), .sh (.str (v.map Kd.c))] = _ := z_read ⟨l.sg, .e⟩ v
    have sc : l.sg.c = l.c := by cases l <;> first | rfl | exact absurd h4 (by decide)
    rw [sc] at zr
    have tl : tabD c_LEAST_CHARACTERS (.str [l.c]) = some (.str [l.sg.lc]) := by cases l <;> first | rfl | exact absurd h4 (by decide)
    have s1 := sx_at1 ((Sx.mk l.sg .e).fold v)
    have tf := tab_fin ((Sx.mk l.sg .e).fold v).t
    show _ = FR.rt (.sh (.str ((hdOf p).c ++ ltrs (fsg k) l.sg ++ ((Sx.mk l.sg .e).fold v).t.fin))) _
    have hdl := hd_len (hdOf p)
    have ll := ltrs_len (fsg k) l.sg
    have fl := fin_len ((Sx.mk l.sg .e).fold v).t
    have a1 := add_str (x := (hdOf p).c) (y := ltrs (fsg k) l.sg) (Nat.le_trans (Nat.add_le_add hdl ll) (by decide))
    have a2 := add_str (x := (hdOf p).c ++ ltrs (fsg k) l.sg) (y := ((Sx.mk l.sg .e).fold v).t.fin) (Nat.le_trans (by rw [List.length_append]; omega : _ ≤ 6) (by decide))
    clear hdl ll fl j1 j2 em e e' rs la h1 h3
    generalize ((Sx.mk l.sg .e).fold v).t.fin = Fn at *
    generalize ((Sx.mk l.sg .e).fold v).t.c = Tc at *
    generalize ((Sx.mk l.sg .e).fold v).d = Sd at *
    generalize (hdOf p).c = Hh at *
    unfold wS at zh ⊢
    generalize p.map Kd.c = Pc at *
    generalize v.map Kd.c = V at *
    generalize w.map Kd.c = X at *
    generalize idxs 0 w = J at *
    generalize enumF 0 (w.map Kd.d) = I at *
    generalize (p.length : Nat) = np at *
    generalize (u.length : Nat) = nu at *
    have fin : ∀ (a b n : Bool), eqD (.str [k.c]) (.str [76]) = some (.bl a) → eqD (.str [l.c]) (.str [76]) = some (.bl b) → neD (.bl a) (.bl b) = some (.bl n) → ltrs (fsg k) l.sg = (if n = false then [l.sg.lc] else [if a = true then 43 else 42] ++ [l.sg.lc]) → Z_least_of [.sh (.str X)] = .rt (.sh (.str (Hh ++ ltrs (fsg k) l.sg ++ Fn))) [.sh (.str X)] := by
      intro a b n ea eb nb el
      generalize ltrs (fsg k) l.sg = Lt at *
      have t1 : tabD c_LEAST_CHARACTERS (.str [76]) = some (.str [43]) := rfl
      have t2 : tabD c_LEAST_CHARACTERS (.str [82]) = some (.str [42]) := rfl
      have b1 : ∀ x : Nat, addD (.str [x]) (.str [l.sg.lc]) = some (.str [x, l.sg.lc]) := fun x => add_str (x := [x]) (y := [l.sg.lc]) (by show 2 ≤ F.lim; decide)
      generalize l.sg.lc = lc at *
      generalize l.c = lcc at *
      generalize k.c = kcc at *
      cases n <;> cases a <;> simp only [if_true, if_false, Bool.false_eq_true, Bool.true_eq_false, reduceCtorEq, List.cons_append, List.nil_append] at el <;> subst el <;>
        simp only [Z_least_of, m_least_of, runF, gdO, finR, endF, allO, sSeq, sSet, setR, sOf, leak, mNextS, andThen, mVar, mC, slot, peek, peeks, nrm, O.pk, O.frz, mIf, mTB, mTru, mAnd, mOr, mNot, mOp1, mOp2, mOl1, mOl2, mTup, mLst, mLks, mDct, mDvs, mBi, mBl, mRs, mSm0, mSm1, mSl, mSlL, mPt, mIt, mItZ, zipR, mCall, asArgs, asArg, back, ofRes, mergeO, ofO, ofOS, sIf, sRet, sRetN, sPass, sExp, sAug, sUnp, sPar, sAsg2, sSto, sBrk, sCnt, sFor, sDrop, sMatch, mtL, mOs, setAll, sPut, mItK, mMut0, mMut1, wipeE, unwipe, lcEnd, mLc, mBad, sBad, mNotV, mAndV, mOrV, Tg.put, putAll, List.map_cons, List.map_nil, List.replicate, List.cons_append, List.nil_append, List.getElem?_cons_zero, List.getElem?_cons_succ, Option.bind_some, List.set_cons_zero, List.set_cons_succ, List.take_succ_cons, List.take_zero, List.headD_cons, List.headD_nil, List.tail_cons, List.tail_nil, Option.map_some, Option.map_none, if_true, if_false, Bool.false_eq_true, ite_true, ite_false, Bool.not_true, Bool.not_false, Bool.true_and, Bool.false_and, List.contains, List.elem, List.append_nil, List.length_cons, List.length_nil, Nat.zero_add, Nat.reduceAdd, Nat.reduceLeDiff, lim, Nat.reduceBEq, beq_self_eq_true, Bool.and_self, i, l2, lt, en, x1, x2, negD, y1, y2, tl, ea, eb, nb, t1, t2, b1, add_int, slS, c1, c2, zr, s1, zh, a1, a2, tf, Int.reduceNeg]
    cases k <;> cases l <;> first | exact absurd h2 (by decide) | exact absurd h4 (by decide) | exact fin _ _ _ rfl rfl rfl rfl
end F
end

section
set_option linter.all false
set_option autoImplicit false
set_option maxRecDepth 100000
set_option maxHeartbeats 1000000
/-! kinds: texts -/
namespace F
/-- a text of the letters that the law draws -/
def Al (n : Nat) (x : List Nat) : Prop := (∀ c ∈ x, c ∈ alpha) ∧ x.length ≤ n
abbrev KK (x : List Nat) : List Kd := x.map kd
theorem Al.app {n m : Nat} {x y : List Nat} (h : Al n x) (g : Al m y) : Al (n + m) (x ++ y) := ⟨fun c hc => (List.mem_append.mp hc).elim (h.1 c) (g.1 c), by rw [List.length_append]; exact Nat.add_le_add h.2 g.2⟩
theorem Al.mono {n m : Nat} {x : List Nat} (h : Al n x) (e : n ≤ m) : Al m x := ⟨h.1, Nat.le_trans h.2 e⟩
def chD (c : Nat) : F.D := .str [c]
theorem itS_x (x : List Nat) : itS (.str x) = some (x.map chD) := rfl
theorem itES_x (x : List Nat) : itES (.str x) = some (enumF 0 (x.map chD)) := rfl
theorem tab_kinds : ∀ c ∈ alpha, tabD c_KINDS (.str [c]) = some (kd c).d := by
  unfold alpha
  repeat' (first | refine List.forall_mem_cons.mpr ⟨rfl, ?_⟩ | exact fun _ h => nomatch h)
theorem joinN_1 : ∀ x : List Nat, joinN [] (x.map fun c => [c]) = x
  | [] => rfl
  | [k] => rfl
  | k :: q :: x => by
    have := joinN_1 (q :: x)
    show [k] ++ ([] ++ joinN [] ((q :: x).map fun k => [k])) = _
    rw [this]
    rfl
theorem sum_1 : ∀ x : List Nat, ((x.map fun k => [k]).map List.length).sum = x.length
  | [] => rfl
  | k :: x => by
    have := sum_1 x
    simp only [List.map_cons, List.sum_cons, List.length_cons, List.length_nil] at this ⊢
    omega
theorem strs_1 : ∀ x : List Nat, strsOf (x.map chD) = some (x.map fun c => [c])
  | [] => rfl
  | c :: x => by
    show (strsOf (x.map chD)).map ([c] :: ·) = _
    rw [strs_1 x]
    rfl
theorem join_1 (x : List Nat) (h : x.length ≤ 1000) : joinD (.str []) (.lst (x.map chD)) = some (.str x) := by
  show ((strsOf (x.map chD)).bind fun xs => if (xs.map List.length).sum + xs.length * 0 ≤ F.lim then some (F.D.str (joinN [] xs)) else none) = _
  rw [strs_1]
  show (if ((x.map fun k => [k]).map List.length).sum + _ * 0 ≤ F.lim then some (F.D.str (joinN [] (x.map fun k => [k]))) else none) = _
  rw [sum_1, Nat.mul_zero, Nat.add_zero, if_pos (Nat.le_trans h (by decide)), joinN_1]
theorem join_w (w : List Kd) (h : w.length ≤ 1000) : joinD (.str []) (.lst (w.map Kd.d)) = some (wS w) := by
  have := join_1 (w.map Kd.c) (by rw [List.length_map]; exact h)
  rw [List.map_map] at this
  exact this
theorem lc_words {n : Nat} {x : List Nat} (h : Al n x) (e0 : Option O) : lcL [1] (.nm 1) mYes (mOp1 (tabD c_KINDS) (mVar 1)) (x.map chD) [] [e0, none] = .ok ((KK x).map Kd.d) [e0, none] := by
  have := lc_map (enc := chD) (own := [1]) (t := .nm 1) (c := mYes) (v := mOp1 (tabD c_KINDS) (mVar 1)) (e := [e0, none]) (f := fun c => (kd c).d) (as := x) (acc := []) (fun c hc => by
    have t := tab_kinds c (h.1 c hc)
    simp only [lcOne, mYes, chD, runF, gdO, finR, endF, allO, sSeq, sSet, setR, sOf, leak, mNextS, andThen, mVar, mC, slot, peek, peeks, nrm, O.pk, O.frz, mIf, mTB, mTru, mAnd, mOr, mNot, mOp1, mOp2, mOl1, mOl2, mTup, mLst, mLks, mDct, mDvs, mBi, mBl, mRs, mSm0, mSm1, mSl, mSlL, mPt, mIt, mItZ, zipR, mCall, asArgs, asArg, back, ofRes, mergeO, ofO, ofOS, sIf, sRet, sRetN, sPass, sExp, sAug, sUnp, sPar, sAsg2, sSto, sBrk, sCnt, sFor, sDrop, sMatch, mtL, mOs, setAll, sPut, mItK, mMut0, mMut1, wipeE, unwipe, lcEnd, mLc, mBad, sBad, mNotV, mAndV, mOrV, Tg.put, putAll, List.map_cons, List.map_nil, List.replicate, List.cons_append, List.nil_append, List.getElem?_cons_zero, List.getElem?_cons_succ, Option.bind_some, List.set_cons_zero, List.set_cons_succ, List.take_succ_cons, List.take_zero, List.headD_cons, List.headD_nil, List.tail_cons, List.tail_nil, Option.map_some, Option.map_none, if_true, if_false, Bool.false_eq_true, ite_true, ite_false, Bool.not_true, Bool.not_false, Bool.true_and, Bool.false_and, List.contains, List.elem, List.append_nil, List.length_cons, List.length_nil, Nat.zero_add, Nat.reduceAdd, Nat.reduceLeDiff, lim, Nat.reduceBEq, beq_self_eq_true, Bool.and_self, t])
  rw [this, List.map_map]
  rfl
theorem z_words {n : Nat} {x : List Nat} (h : Al n x) (hn : n ≤ 1000) : Z_words_of [.sh (.str x)] = .rt (.sh (wS (KK x))) [.sh (.str x)] := by
  have hl : (x.length ≤ 16777216) = True := eq_true (Nat.le_trans h.2 (Nat.le_trans hn (by decide)))
  have l2 : (x.map chD).length = x.length := List.length_map _
  have lw := lc_words h
  have j := join_w (KK x) (by rw [List.length_map]; exact Nat.le_trans h.2 hn)
  have i := itS_x x
  generalize x.map chD = I at *
  generalize (KK x).map Kd.d = J at *
  simp only [Z_words_of, m_words_of, runF, gdO, finR, endF, allO, sSeq, sSet, setR, sOf, leak, mNextS, andThen, mVar, mC, slot, peek, peeks, nrm, O.pk, O.frz, mIf, mTB, mTru, mAnd, mOr, mNot, mOp1, mOp2, mOl1, mOl2, mTup, mLst, mLks, mDct, mDvs, mBi, mBl, mRs, mSm0, mSm1, mSl, mSlL, mPt, mIt, mItZ, zipR, mCall, asArgs, asArg, back, ofRes, mergeO, ofO, ofOS, sIf, sRet, sRetN, sPass, sExp, sAug, sUnp, sPar, sAsg2, sSto, sBrk, sCnt, sFor, sDrop, sMatch, mtL, mOs, setAll, sPut, mItK, mMut0, mMut1, wipeE, unwipe, lcEnd, mLc, mBad, sBad, mNotV, mAndV, mOrV, Tg.put, putAll, List.map_cons, List.map_nil, List.replicate, List.cons_append, List.nil_append, List.getElem?_cons_zero, List.getElem?_cons_succ, Option.bind_some, List.set_cons_zero, List.set_cons_succ, List.take_succ_cons, List.take_zero, List.headD_cons, List.headD_nil, List.tail_cons, List.tail_nil, Option.map_some, Option.map_none, if_true, if_false, Bool.false_eq_true, ite_true, ite_false, Bool.not_true, Bool.not_false, Bool.true_and, Bool.false_and, List.contains, List.elem, List.append_nil, List.length_cons, List.length_nil, Nat.zero_add, Nat.reduceAdd, Nat.reduceLeDiff, lim, Nat.reduceBEq, beq_self_eq_true, Bool.and_self, i, l2, hl, lw, j]
/-! ### need_plain -/
theorem kn_alpha : ∀ c ∈ alpha, ninD (.str [c]) (.str c_KNOWN) = some (.bl false) ∧ ninD (.str [c]) (.str c_PLAIN_CHARACTERS) = some (.bl false) ∧ inD (.str [c]) (.str c_BEGINS) = some (.bl false) ∧ eqD (.str [c]) (.str c_END) = some (.bl false) := by
  unfold alpha
  repeat' (first | refine List.forall_mem_cons.mpr ⟨⟨rfl, rfl, rfl, rfl⟩, ?_⟩ | exact fun _ h => nomatch h)
theorem lc_none {own : List Nat} {t : Tg} {c : M Bool} {v : M F.R} {e : Env} : ∀ {ds acc : List F.D}, (∀ d ∈ ds, lcOne own t c v d e = some (none, e)) → lcL own t c v ds acc e = .ok acc e
  | [], acc, _ => rfl
  | d :: ds, acc, h => by
    rw [lc_eq (h d (List.mem_cons_self ..))]
    simp only [Option.toList, List.append_nil]
    exact lc_none fun b hb => h b (List.mem_cons_of_mem _ hb)
theorem mem_enum {d : F.D} : ∀ {l : List F.D} {n : Nat}, d ∈ enumF n l → ∃ (i : Int) (a : F.D), a ∈ l ∧ d = .tup [.int i, a]
  | [], n, h => by cases h
  | x :: l, n, h => by
    rcases List.mem_cons.mp h with rfl | h
    · exact ⟨_, x, List.mem_cons_self .., rfl⟩
    · obtain ⟨i, a, ha, e⟩ := mem_enum h
      exact ⟨i, a, List.mem_cons_of_mem _ ha, e⟩
theorem lc_unk {n : Nat} {x : List Nat} (h : Al n x) (e0 : Option O) : lcL [2, 3] (.tp [(.nm 2), (.nm 3)]) (mTB (mOp2 ninD (mVar 3) (mC (.str c_KNOWN)))) (mVar 2) (enumF 0 (x.map chD)) [] [e0, none, none, none] = .ok [] [e0, none, none, none] := by
  refine lc_none fun d hd => ?_
  obtain ⟨i, a, ha, rfl⟩ := mem_enum hd
  obtain ⟨c, hc, rfl⟩ := List.mem_map.mp ha
  have t := (kn_alpha c (h.1 c hc)).1
  simp only [lcOne, chD, runF, gdO, finR, endF, allO, sSeq, sSet, setR, sOf, leak, mNextS, andThen, mVar, mC, slot, peek, peeks, nrm, O.pk, O.frz, mIf, mTB, mTru, mAnd, mOr, mNot, mOp1, mOp2, mOl1, mOl2, mTup, mLst, mLks, mDct, mDvs, mBi, mBl, mRs, mSm0, mSm1, mSl, mSlL, mPt, mIt, mItZ, zipR, mCall, asArgs, asArg, back, ofRes, mergeO, ofO, ofOS, sIf, sRet, sRetN, sPass, sExp, sAug, sUnp, sPar, sAsg2, sSto, sBrk, sCnt, sFor, sDrop, sMatch, mtL, mOs, setAll, sPut, mItK, mMut0, mMut1, wipeE, unwipe, lcEnd, mLc, mBad, sBad, mNotV, mAndV, mOrV, Tg.put, putAll, List.map_cons, List.map_nil, List.replicate, List.cons_append, List.nil_append, List.getElem?_cons_zero, List.getElem?_cons_succ, Option.bind_some, List.set_cons_zero, List.set_cons_succ, List.take_succ_cons, List.take_zero, List.headD_cons, List.headD_nil, List.tail_cons, List.tail_nil, Option.map_some, Option.map_none, if_true, if_false, Bool.false_eq_true, ite_true, ite_false, Bool.not_true, Bool.not_false, Bool.true_and, Bool.false_and, List.contains, List.elem, List.append_nil, List.length_cons, List.length_nil, Nat.zero_add, Nat.reduceAdd, Nat.reduceLeDiff, lim, Nat.reduceBEq, beq_self_eq_true, Bool.and_self, t]
theorem lc_str {n : Nat} {x : List Nat} (h : Al n x) (e0 : Option O) : lcL [4, 5] (.tp [(.nm 4), (.nm 5)]) (mTB (mOp2 ninD (mVar 5) (mVar 1))) (mVar 4) (enumF 0 (x.map chD)) [] [e0, some (.sh (.str c_PLAIN_CHARACTERS)), none, none, none, none] = .ok [] [e0, some (.sh (.str c_PLAIN_CHARACTERS)), none, none, none, none] := by
  refine lc_none fun d hd => ?_
  obtain ⟨i, a, ha, rfl⟩ := mem_enum hd
  obtain ⟨c, hc, rfl⟩ := List.mem_map.mp ha
  have t := (kn_alpha c (h.1 c hc)).2.1
  simp only [lcOne, chD, runF, gdO, finR, endF, allO, sSeq, sSet, setR, sOf, leak, mNextS, andThen, mVar, mC, slot, peek, peeks, nrm, O.pk, O.frz, mIf, mTB, mTru, mAnd, mOr, mNot, mOp1, mOp2, mOl1, mOl2, mTup, mLst, mLks, mDct, mDvs, mBi, mBl, mRs, mSm0, mSm1, mSl, mSlL, mPt, mIt, mItZ, zipR, mCall, asArgs, asArg, back, ofRes, mergeO, ofO, ofOS, sIf, sRet, sRetN, sPass, sExp, sAug, sUnp, sPar, sAsg2, sSto, sBrk, sCnt, sFor, sDrop, sMatch, mtL, mOs, setAll, sPut, mItK, mMut0, mMut1, wipeE, unwipe, lcEnd, mLc, mBad, sBad, mNotV, mAndV, mOrV, Tg.put, putAll, List.map_cons, List.map_nil, List.replicate, List.cons_append, List.nil_append, List.getElem?_cons_zero, List.getElem?_cons_succ, Option.bind_some, List.set_cons_zero, List.set_cons_succ, List.take_succ_cons, List.take_zero, List.headD_cons, List.headD_nil, List.tail_cons, List.tail_nil, Option.map_some, Option.map_none, if_true, if_false, Bool.false_eq_true, ite_true, ite_false, Bool.not_true, Bool.not_false, Bool.true_and, Bool.false_and, List.contains, List.elem, List.append_nil, List.length_cons, List.length_nil, Nat.zero_add, Nat.reduceAdd, Nat.reduceLeDiff, lim, Nat.reduceBEq, beq_self_eq_true, Bool.and_self, t]
theorem for_over {n : Nat} {x : List Nat} (h : Al n x) (e0 e1 : Option O) : forL (.tp [(.nm 3), (.nm 4)]) b_overfull_0 (enumF 0 (x.map chD)) [e0, e1, some (.sh (.int 0)), none, none] = .nx [e0, e1, some (.sh (.int 0)), none, none] := by
  obtain ⟨e', h1, h2⟩ := for_inv (I := fun e => e = [e0, e1, some (.sh (.int 0)), none, none]) (t := .tp [(.nm 3), (.nm 4)]) (body := b_overfull_0) (ds := enumF 0 (x.map chD)) (fun d hd e he => by
    subst he
    obtain ⟨i, a, ha, rfl⟩ := mem_enum hd
    obtain ⟨c, hc, rfl⟩ := List.mem_map.mp ha
    obtain ⟨_, _, t1, t2⟩ := kn_alpha c (h.1 c hc)
    exact ⟨_, _, rfl, by simp only [b_overfull_0, chD, runF, gdO, finR, endF, allO, sSeq, sSet, setR, sOf, leak, mNextS, andThen, mVar, mC, slot, peek, peeks, nrm, O.pk, O.frz, mIf, mTB, mTru, mAnd, mOr, mNot, mOp1, mOp2, mOl1, mOl2, mTup, mLst, mLks, mDct, mDvs, mBi, mBl, mRs, mSm0, mSm1, mSl, mSlL, mPt, mIt, mItZ, zipR, mCall, asArgs, asArg, back, ofRes, mergeO, ofO, ofOS, sIf, sRet, sRetN, sPass, sExp, sAug, sUnp, sPar, sAsg2, sSto, sBrk, sCnt, sFor, sDrop, sMatch, mtL, mOs, setAll, sPut, mItK, mMut0, mMut1, wipeE, unwipe, lcEnd, mLc, mBad, sBad, mNotV, mAndV, mOrV, Tg.put, putAll, List.map_cons, List.map_nil, List.replicate, List.cons_append, List.nil_append, List.getElem?_cons_zero, List.getElem?_cons_succ, Option.bind_some, List.set_cons_zero, List.set_cons_succ, List.take_succ_cons, List.take_zero, List.headD_cons, List.headD_nil, List.tail_cons, List.tail_nil, Option.map_some, Option.map_none, if_true, if_false, Bool.false_eq_true, ite_true, ite_false, Bool.not_true, Bool.not_false, Bool.true_and, Bool.false_and, List.contains, List.elem, List.append_nil, List.length_cons, List.length_nil, Nat.zero_add, Nat.reduceAdd, Nat.reduceLeDiff, lim, Nat.reduceBEq, beq_self_eq_true, Bool.and_self, t1, t2], rfl⟩) rfl
  rw [h1, h2]
theorem z_unk {n : Nat} {x : List Nat} (h : Al n x) (hn : n ≤ 1000) : Z_first_unknown [.sh (.str x)] = .rt (.sh .non) [.sh (.str x)] := by
  have hl : ((enumF 0 (x.map chD)).length ≤ 16777216) = True := eq_true (by rw [enumF_len, List.length_map]; exact Nat.le_trans h.2 (Nat.le_trans hn (by decide)))
  have lw := lc_unk h
  have i := itES_x x
  generalize enumF 0 (x.map chD) = I at *
  simp only [Z_first_unknown, m_first_unknown, runF, gdO, finR, endF, allO, sSeq, sSet, setR, sOf, leak, mNextS, andThen, mVar, mC, slot, peek, peeks, nrm, O.pk, O.frz, mIf, mTB, mTru, mAnd, mOr, mNot, mOp1, mOp2, mOl1, mOl2, mTup, mLst, mLks, mDct, mDvs, mBi, mBl, mRs, mSm0, mSm1, mSl, mSlL, mPt, mIt, mItZ, zipR, mCall, asArgs, asArg, back, ofRes, mergeO, ofO, ofOS, sIf, sRet, sRetN, sPass, sExp, sAug, sUnp, sPar, sAsg2, sSto, sBrk, sCnt, sFor, sDrop, sMatch, mtL, mOs, setAll, sPut, mItK, mMut0, mMut1, wipeE, unwipe, lcEnd, mLc, mBad, sBad, mNotV, mAndV, mOrV, Tg.put, putAll, List.map_cons, List.map_nil, List.replicate, List.cons_append, List.nil_append, List.getElem?_cons_zero, List.getElem?_cons_succ, Option.bind_some, List.set_cons_zero, List.set_cons_succ, List.take_succ_cons, List.take_zero, List.headD_cons, List.headD_nil, List.tail_cons, List.tail_nil, Option.map_some, Option.map_none, if_true, if_false, Bool.false_eq_true, ite_true, ite_false, Bool.not_true, Bool.not_false, Bool.true_and, Bool.false_and, List.contains, List.elem, List.append_nil, List.length_cons, List.length_nil, Nat.zero_add, Nat.reduceAdd, Nat.reduceLeDiff, lim, Nat.reduceBEq, beq_self_eq_true, Bool.and_self, i, hl, lw]
  rfl
theorem z_over {n : Nat} {x : List Nat} (h : Al n x) : Z_overfull [.sh (.str x), .sh (.int 20)] = .rt (.sh .non) [.sh (.str x), .sh (.int 20)] := by
  have lw := for_over h
  have i := itES_x x
  generalize enumF 0 (x.map chD) = I at *
  simp only [Z_overfull, m_overfull, runF, gdO, finR, endF, allO, sSeq, sSet, setR, sOf, leak, mNextS, andThen, mVar, mC, slot, peek, peeks, nrm, O.pk, O.frz, mIf, mTB, mTru, mAnd, mOr, mNot, mOp1, mOp2, mOl1, mOl2, mTup, mLst, mLks, mDct, mDvs, mBi, mBl, mRs, mSm0, mSm1, mSl, mSlL, mPt, mIt, mItZ, zipR, mCall, asArgs, asArg, back, ofRes, mergeO, ofO, ofOS, sIf, sRet, sRetN, sPass, sExp, sAug, sUnp, sPar, sAsg2, sSto, sBrk, sCnt, sFor, sDrop, sMatch, mtL, mOs, setAll, sPut, mItK, mMut0, mMut1, wipeE, unwipe, lcEnd, mLc, mBad, sBad, mNotV, mAndV, mOrV, Tg.put, putAll, List.map_cons, List.map_nil, List.replicate, List.cons_append, List.nil_append, List.getElem?_cons_zero, List.getElem?_cons_succ, Option.bind_some, List.set_cons_zero, List.set_cons_succ, List.take_succ_cons, List.take_zero, List.headD_cons, List.headD_nil, List.tail_cons, List.tail_nil, Option.map_some, Option.map_none, if_true, if_false, Bool.false_eq_true, ite_true, ite_false, Bool.not_true, Bool.not_false, Bool.true_and, Bool.false_and, List.contains, List.elem, List.append_nil, List.length_cons, List.length_nil, Nat.zero_add, Nat.reduceAdd, Nat.reduceLeDiff, lim, Nat.reduceBEq, beq_self_eq_true, Bool.and_self, i, lw]
theorem z_fault {n : Nat} {x : List Nat} (h : Al n x) (hn : n ≤ 1000) : Z_first_fault [.sh (.str x)] = .rt (.sh .non) [.sh (.str x)] := by
  have z1 := z_unk h hn
  have z2 := z_over h
  simp only [Z_first_fault, m_first_fault, runF, gdO, finR, endF, allO, sSeq, sSet, setR, sOf, leak, mNextS, andThen, mVar, mC, slot, peek, peeks, nrm, O.pk, O.frz, mIf, mTB, mTru, mAnd, mOr, mNot, mOp1, mOp2, mOl1, mOl2, mTup, mLst, mLks, mDct, mDvs, mBi, mBl, mRs, mSm0, mSm1, mSl, mSlL, mPt, mIt, mItZ, zipR, mCall, asArgs, asArg, back, ofRes, mergeO, ofO, ofOS, sIf, sRet, sRetN, sPass, sExp, sAug, sUnp, sPar, sAsg2, sSto, sBrk, sCnt, sFor, sDrop, sMatch, mtL, mOs, setAll, sPut, mItK, mMut0, mMut1, wipeE, unwipe, lcEnd, mLc, mBad, sBad, mNotV, mAndV, mOrV, Tg.put, putAll, List.map_cons, List.map_nil, List.replicate, List.cons_append, List.nil_append, List.getElem?_cons_zero, List.getElem?_cons_succ, Option.bind_some, List.set_cons_zero, List.set_cons_succ, List.take_succ_cons, List.take_zero, List.headD_cons, List.headD_nil, List.tail_cons, List.tail_nil, Option.map_some, Option.map_none, if_true, if_false, Bool.false_eq_true, ite_true, ite_false, Bool.not_true, Bool.not_false, Bool.true_and, Bool.false_and, List.contains, List.elem, List.append_nil, List.length_cons, List.length_nil, Nat.zero_add, Nat.reduceAdd, Nat.reduceLeDiff, lim, Nat.reduceBEq, beq_self_eq_true, Bool.and_self, z1, z2]
  rfl
theorem len_str (x : List Nat) : lenD [.str x] = some (.int (x.length : Nat)) := rfl
theorem gt_int (i j : Int) : gtD (.int i) (.int j) = some (.bl (decide (j < i))) := rfl
theorem z_need {n : Nat} {x : List Nat} (h : Al n x) (hn : n ≤ 400) : Z_need_text [.sh (.str x), .sh (.str c_PLAIN_CHARACTERS)] = .rt (.sh .non) [.sh (.str x), .sh (.str c_PLAIN_CHARACTERS)] := by
  have hl : ((enumF 0 (x.map chD)).length ≤ 16777216) = True := eq_true (by rw [enumF_len, List.length_map]; exact Nat.le_trans h.2 (Nat.le_trans hn (by decide)))
  have g : ((400 : Int) < (x.length : Nat)) = False := eq_false (by have := h.2; omega)
  have lw := lc_str h
  have i := itES_x x
  have z := z_fault h (Nat.le_trans hn (by decide))
  have n0 : neD (.lst []) (.lst []) = some (.bl false) := rfl
  generalize enumF 0 (x.map chD) = I at *
  simp only [Z_need_text, m_need_text, runF, gdO, finR, endF, allO, sSeq, sSet, setR, sOf, leak, mNextS, andThen, mVar, mC, slot, peek, peeks, nrm, O.pk, O.frz, mIf, mTB, mTru, mAnd, mOr, mNot, mOp1, mOp2, mOl1, mOl2, mTup, mLst, mLks, mDct, mDvs, mBi, mBl, mRs, mSm0, mSm1, mSl, mSlL, mPt, mIt, mItZ, zipR, mCall, asArgs, asArg, back, ofRes, mergeO, ofO, ofOS, sIf, sRet, sRetN, sPass, sExp, sAug, sUnp, sPar, sAsg2, sSto, sBrk, sCnt, sFor, sDrop, sMatch, mtL, mOs, setAll, sPut, mItK, mMut0, mMut1, wipeE, unwipe, lcEnd, mLc, mBad, sBad, mNotV, mAndV, mOrV, Tg.put, putAll, List.map_cons, List.map_nil, List.replicate, List.cons_append, List.nil_append, List.getElem?_cons_zero, List.getElem?_cons_succ, Option.bind_some, List.set_cons_zero, List.set_cons_succ, List.take_succ_cons, List.take_zero, List.headD_cons, List.headD_nil, List.tail_cons, List.tail_nil, Option.map_some, Option.map_none, if_true, if_false, Bool.false_eq_true, ite_true, ite_false, Bool.not_true, Bool.not_false, Bool.true_and, Bool.false_and, List.contains, List.elem, List.append_nil, List.length_cons, List.length_nil, Nat.zero_add, Nat.reduceAdd, Nat.reduceLeDiff, lim, Nat.reduceBEq, beq_self_eq_true, Bool.and_self, isiD, isTy, len_str, gt_int, g, decide_false, i, hl, lw, z, n0, isntD, isNone]
theorem z_plain {n : Nat} {x : List Nat} (h : Al n x) (hn : n ≤ 400) : Z_need_plain [.sh (.str x)] = .rt (.sh .non) [.sh (.str x)] := by
  have z := z_need h hn
  simp only [Z_need_plain, m_need_plain, runF, gdO, finR, endF, allO, sSeq, sSet, setR, sOf, leak, mNextS, andThen, mVar, mC, slot, peek, peeks, nrm, O.pk, O.frz, mIf, mTB, mTru, mAnd, mOr, mNot, mOp1, mOp2, mOl1, mOl2, mTup, mLst, mLks, mDct, mDvs, mBi, mBl, mRs, mSm0, mSm1, mSl, mSlL, mPt, mIt, mItZ, zipR, mCall, asArgs, asArg, back, ofRes, mergeO, ofO, ofOS, sIf, sRet, sRetN, sPass, sExp, sAug, sUnp, sPar, sAsg2, sSto, sBrk, sCnt, sFor, sDrop, sMatch, mtL, mOs, setAll, sPut, mItK, mMut0, mMut1, wipeE, unwipe, lcEnd, mLc, mBad, sBad, mNotV, mAndV, mOrV, Tg.put, putAll, List.map_cons, List.map_nil, List.replicate, List.cons_append, List.nil_append, List.getElem?_cons_zero, List.getElem?_cons_succ, Option.bind_some, List.set_cons_zero, List.set_cons_succ, List.take_succ_cons, List.take_zero, List.headD_cons, List.headD_nil, List.tail_cons, List.tail_nil, Option.map_some, Option.map_none, if_true, if_false, Bool.false_eq_true, ite_true, ite_false, Bool.not_true, Bool.not_false, Bool.true_and, Bool.false_and, List.contains, List.elem, List.append_nil, List.length_cons, List.length_nil, Nat.zero_add, Nat.reduceAdd, Nat.reduceLeDiff, lim, Nat.reduceBEq, beq_self_eq_true, Bool.and_self, z]
theorem z_factor {n : Nat} {x : List Nat} (h : Al n x) (hn : n ≤ 200) : Z_need_factor [.sh (.str x)] = .rt (.sh .non) [.sh (.str x)] := by
  have z := z_plain h (Nat.le_trans hn (by decide))
  have g : ((200 : Int) < (x.length : Nat)) = False := eq_false (by have := h.2; omega)
  simp only [Z_need_factor, m_need_factor, runF, gdO, finR, endF, allO, sSeq, sSet, setR, sOf, leak, mNextS, andThen, mVar, mC, slot, peek, peeks, nrm, O.pk, O.frz, mIf, mTB, mTru, mAnd, mOr, mNot, mOp1, mOp2, mOl1, mOl2, mTup, mLst, mLks, mDct, mDvs, mBi, mBl, mRs, mSm0, mSm1, mSl, mSlL, mPt, mIt, mItZ, zipR, mCall, asArgs, asArg, back, ofRes, mergeO, ofO, ofOS, sIf, sRet, sRetN, sPass, sExp, sAug, sUnp, sPar, sAsg2, sSto, sBrk, sCnt, sFor, sDrop, sMatch, mtL, mOs, setAll, sPut, mItK, mMut0, mMut1, wipeE, unwipe, lcEnd, mLc, mBad, sBad, mNotV, mAndV, mOrV, Tg.put, putAll, List.map_cons, List.map_nil, List.replicate, List.cons_append, List.nil_append, List.getElem?_cons_zero, List.getElem?_cons_succ, Option.bind_some, List.set_cons_zero, List.set_cons_succ, List.take_succ_cons, List.take_zero, List.headD_cons, List.headD_nil, List.tail_cons, List.tail_nil, Option.map_some, Option.map_none, if_true, if_false, Bool.false_eq_true, ite_true, ite_false, Bool.not_true, Bool.not_false, Bool.true_and, Bool.false_and, List.contains, List.elem, List.append_nil, List.length_cons, List.length_nil, Nat.zero_add, Nat.reduceAdd, Nat.reduceLeDiff, lim, Nat.reduceBEq, beq_self_eq_true, Bool.and_self, isiD, isTy, len_str, gt_int, g, decide_false, z]
/-! ### least, product, lead -/
def lst (x : List Nat) : List Nat := (Q.run (KK x)).least
theorem lst_al (x : List Nat) : Al 6 (lst x) := least_al (ok_run _)
theorem KK_lst (x : List Nat) : KK (lst x) = (Q.run (KK x)).lw := rfl
theorem KK_app (x y : List Nat) : KK (x ++ y) = KK x ++ KK y := List.map_append
theorem z_least {n : Nat} {x : List Nat} (h : Al n x) (hn : n ≤ 400) : Z_least [.sh (.str x)] = .rt (.sh (.str (lst x))) [.sh (.str x)] := by
  have z1 := z_plain h hn
  have z2 := z_words h (Nat.le_trans hn (by decide))
  have z3 := z_least_of (w := KK x) (by rw [List.length_map]; exact Nat.le_trans h.2 (Nat.le_trans hn (by decide)))
  unfold lst
  simp only [Z_least, m_least, runF, gdO, finR, endF, allO, sSeq, sSet, setR, sOf, leak, mNextS, andThen, mVar, mC, slot, peek, peeks, nrm, O.pk, O.frz, mIf, mTB, mTru, mAnd, mOr, mNot, mOp1, mOp2, mOl1, mOl2, mTup, mLst, mLks, mDct, mDvs, mBi, mBl, mRs, mSm0, mSm1, mSl, mSlL, mPt, mIt, mItZ, zipR, mCall, asArgs, asArg, back, ofRes, mergeO, ofO, ofOS, sIf, sRet, sRetN, sPass, sExp, sAug, sUnp, sPar, sAsg2, sSto, sBrk, sCnt, sFor, sDrop, sMatch, mtL, mOs, setAll, sPut, mItK, mMut0, mMut1, wipeE, unwipe, lcEnd, mLc, mBad, sBad, mNotV, mAndV, mOrV, Tg.put, putAll, List.map_cons, List.map_nil, List.replicate, List.cons_append, List.nil_append, List.getElem?_cons_zero, List.getElem?_cons_succ, Option.bind_some, List.set_cons_zero, List.set_cons_succ, List.take_succ_cons, List.take_zero, List.headD_cons, List.headD_nil, List.tail_cons, List.tail_nil, Option.map_some, Option.map_none, if_true, if_false, Bool.false_eq_true, ite_true, ite_false, Bool.not_true, Bool.not_false, Bool.true_and, Bool.false_and, List.contains, List.elem, List.append_nil, List.length_cons, List.length_nil, Nat.zero_add, Nat.reduceAdd, Nat.reduceLeDiff, lim, Nat.reduceBEq, beq_self_eq_true, Bool.and_self, z1, z2, z3]
theorem z_product {n m : Nat} {x y : List Nat} (h : Al n x) (g : Al m y) (hn : n ≤ 200) (hm : m ≤ 200) : Z_product [.sh (.str x), .sh (.str y)] = .rt (.sh (.str (lst (x ++ y)))) [.sh (.str x), .sh (.str y)] := by
  have z1 := z_factor h hn
  have z2 := z_factor g hm
  have z3 := z_words h (Nat.le_trans hn (by decide))
  have z4 := z_words g (Nat.le_trans hm (by decide))
  have z5 := z_least_of (w := KK x ++ KK y) (by rw [List.length_append, List.length_map, List.length_map]; have := h.2; have := g.2; omega)
  have a := add_str (x := (KK x).map Kd.c) (y := (KK y).map Kd.c) (by rw [List.length_map, List.length_map, List.length_map, List.length_map]; have := h.2; have := g.2; show x.length + y.length ≤ 16777216; omega)
  rw [← List.map_append] at a
  unfold lst
  rw [KK_app]
  unfold wS at *
  generalize (KK x ++ KK y).map Kd.c = XY at *
  generalize (KK x).map Kd.c = X at *
  generalize (KK y).map Kd.c = Y at *
  simp only [Z_product, m_product, runF, gdO, finR, endF, allO, sSeq, sSet, setR, sOf, leak, mNextS, andThen, mVar, mC, slot, peek, peeks, nrm, O.pk, O.frz, mIf, mTB, mTru, mAnd, mOr, mNot, mOp1, mOp2, mOl1, mOl2, mTup, mLst, mLks, mDct, mDvs, mBi, mBl, mRs, mSm0, mSm1, mSl, mSlL, mPt, mIt, mItZ, zipR, mCall, asArgs, asArg, back, ofRes, mergeO, ofO, ofOS, sIf, sRet, sRetN, sPass, sExp, sAug, sUnp, sPar, sAsg2, sSto, sBrk, sCnt, sFor, sDrop, sMatch, mtL, mOs, setAll, sPut, mItK, mMut0, mMut1, wipeE, unwipe, lcEnd, mLc, mBad, sBad, mNotV, mAndV, mOrV, Tg.put, putAll, List.map_cons, List.map_nil, List.replicate, List.cons_append, List.nil_append, List.getElem?_cons_zero, List.getElem?_cons_succ, Option.bind_some, List.set_cons_zero, List.set_cons_succ, List.take_succ_cons, List.take_zero, List.headD_cons, List.headD_nil, List.tail_cons, List.tail_nil, Option.map_some, Option.map_none, if_true, if_false, Bool.false_eq_true, ite_true, ite_false, Bool.not_true, Bool.not_false, Bool.true_and, Bool.false_and, List.contains, List.elem, List.append_nil, List.length_cons, List.length_nil, Nat.zero_add, Nat.reduceAdd, Nat.reduceLeDiff, lim, Nat.reduceBEq, beq_self_eq_true, Bool.and_self, z1, z2, z3, z4, a, z5]
theorem find_kd (w : List Kd) : (w.map Kd.c).find? (fun k => decide (k ∈ c_STRONG)) = (w.find? Kd.st).map Kd.c := by
  induction w with
  | nil => rfl
  | cons k w ih =>
    rw [List.map_cons, List.find?_cons, List.find?_cons, ih]
    cases k <;> rfl
theorem z_lead_of (w : List Kd) : Z_lead_of [.sh (wS w)] = .rt (.sh (leadD w)) [.sh (wS w)] := by
  have f := find_kd w
  unfold leadD leadO
  unfold wS
  generalize w.map Kd.c = X at *
  simp only [Z_lead_of, m_lead_of, runF, gdO, finR, endF, allO, sSeq, sSet, setR, sOf, leak, mNextS, andThen, mVar, mC, slot, peek, peeks, nrm, O.pk, O.frz, mIf, mTB, mTru, mAnd, mOr, mNot, mOp1, mOp2, mOl1, mOl2, mTup, mLst, mLks, mDct, mDvs, mBi, mBl, mRs, mSm0, mSm1, mSl, mSlL, mPt, mIt, mItZ, zipR, mCall, asArgs, asArg, back, ofRes, mergeO, ofO, ofOS, sIf, sRet, sRetN, sPass, sExp, sAug, sUnp, sPar, sAsg2, sSto, sBrk, sCnt, sFor, sDrop, sMatch, mtL, mOs, setAll, sPut, mItK, mMut0, mMut1, wipeE, unwipe, lcEnd, mLc, mBad, sBad, mNotV, mAndV, mOrV, Tg.put, putAll, List.map_cons, List.map_nil, List.replicate, List.cons_append, List.nil_append, List.getElem?_cons_zero, List.getElem?_cons_succ, Option.bind_some, List.set_cons_zero, List.set_cons_succ, List.take_succ_cons, List.take_zero, List.headD_cons, List.headD_nil, List.tail_cons, List.tail_nil, Option.map_some, Option.map_none, if_true, if_false, Bool.false_eq_true, ite_true, ite_false, Bool.not_true, Bool.not_false, Bool.true_and, Bool.false_and, List.contains, List.elem, List.append_nil, List.length_cons, List.length_nil, Nat.zero_add, Nat.reduceAdd, Nat.reduceLeDiff, lim, Nat.reduceBEq, beq_self_eq_true, Bool.and_self, f]
  cases h : w.find? Kd.st with
  | none => rfl
  | some k => cases k <;> rfl
end F
end

section
set_option linter.all false
set_option autoImplicit false
set_option maxRecDepth 100000
set_option maxHeartbeats 1000000
/-! kinds: effects -/
namespace F
theorem z_fate (l : Lt) (st : Sx) (k : Kd) : Z_fate [.sh l.d, .sh st.d, .sh k.d] = .rt (.sh (fateF l st.s k).d) [.sh l.d, .sh st.d, .sh k.d] := by
  obtain ⟨s, t⟩ := st
  cases l <;> cases s <;> cases k <;> rfl
theorem fate_ls (l : Lt) (s : Sg) (k : Kd) : fateF l s k ≠ .l .S := by
  cases l <;> cases s <;> cases k <;> (intro h; cases h)
theorem fr_in (r : Fr) (h : r ≠ .l .S) : ninD r.d (.tup [.str [78], .str [84]]) = some (.bl (match r with | .l _ => false | _ => true)) := by
  cases r with
  | l x => cases x <;> first | rfl | exact absurd rfl h
  | _ => rfl
theorem fw_loop (W : Option O) : ∀ (w : List Kd) (l : Lt) (st : Sx), ∃ l' st' o3 o4,
    sSeq (sDrop (fun e => forL (.nm 3) b_fate_within_0 (w.map Kd.d) e) [3, 4]) (sRet (mVar 0)) [some (.sh l.d), some (.sh st.d), W, none, none] = .rt (.sh (fwF l st w).d) [some (.sh l'), some (.sh st'), W, o3, o4]
  | [], l, st => ⟨l.d, st.d, none, none, rfl⟩
  | k :: w, l, st => by
    have z := z_fate l st k
    have n := fate_ls l st.s k
    have zn := z_next st k
    show ∃ l' st' o3 o4, _ = SR.rt (.sh (match fateF l st.s k with
      | .l x => fwF x (st.nx k) w
      | r => r).d) _
    have ti := fr_in _ n
    have fin : ∀ R : F.D, Z_fate [.sh l.d, .sh st.d, .sh k.d] = .rt (.sh R) [.sh l.d, .sh st.d, .sh k.d] → ninD R (.tup [.str [78], .str [84]]) = some (.bl true) →
        ∃ l' st' o3 o4, sSeq (sDrop (fun e => forL (.nm 3) b_fate_within_0 ((k :: w).map Kd.d) e) [3, 4]) (sRet (mVar 0)) [some (.sh l.d), some (.sh st.d), W, none, none] = .rt (.sh R) [some (.sh l'), some (.sh st'), W, o3, o4] := fun R z ti => by
      have hb : b_fate_within_0 [some (.sh l.d), some (.sh st.d), W, some (.sh k.d), none] = .rt (.sh R) [some (.sh l.d), some (.sh st.d), W, some (.sh k.d), some (.sh R)] := by
        generalize l.d = L at *
        generalize st.d = S at *
        generalize k.d = K at *
        simp only [b_fate_within_0, runF, gdO, finR, endF, allO, sSeq, sSet, setR, sOf, leak, mNextS, andThen, mVar, mC, slot, peek, peeks, nrm, O.pk, O.frz, mIf, mTB, mTru, mAnd, mOr, mNot, mOp1, mOp2, mOl1, mOl2, mTup, mLst, mLks, mDct, mDvs, mBi, mBl, mRs, mSm0, mSm1, mSl, mSlL, mPt, mIt, mItZ, zipR, mCall, asArgs, asArg, back, ofRes, mergeO, ofO, ofOS, sIf, sRet, sRetN, sPass, sExp, sAug, sUnp, sPar, sAsg2, sSto, sBrk, sCnt, sFor, sDrop, sMatch, mtL, mOs, setAll, sPut, mItK, mMut0, mMut1, wipeE, unwipe, lcEnd, mLc, mBad, sBad, mNotV, mAndV, mOrV, Tg.put, putAll, List.map_cons, List.map_nil, List.replicate, List.cons_append, List.nil_append, List.getElem?_cons_zero, List.getElem?_cons_succ, Option.bind_some, List.set_cons_zero, List.set_cons_succ, List.take_succ_cons, List.take_zero, List.headD_cons, List.headD_nil, List.tail_cons, List.tail_nil, Option.map_some, Option.map_none, if_true, if_false, Bool.false_eq_true, ite_true, ite_false, Bool.not_true, Bool.not_false, Bool.true_and, Bool.false_and, List.contains, List.elem, List.append_nil, List.length_cons, List.length_nil, Nat.zero_add, Nat.reduceAdd, Nat.reduceLeDiff, lim, Nat.reduceBEq, beq_self_eq_true, Bool.and_self, z, ti]
      have f := for_consR (t := .nm 3) (ds := w.map Kd.d) (e := [some (.sh l.d), some (.sh st.d), W, none, none]) rfl hb
      refine ⟨l.d, st.d, some (.sh k.d), some (.sh R), ?_⟩
      simp only [sSeq, sDrop, List.map_cons, f]
    generalize hr : fateF l st.s k = r at *
    cases r with
    | l x =>
      obtain ⟨l', st', o3, o4, ih⟩ := fw_loop W w x (st.nx k)
      refine ⟨l', st', o3, o4, ?_⟩
      rw [← ih]
      have hb : b_fate_within_0 [some (.sh l.d), some (.sh st.d), W, some (.sh k.d), none] = .nx [some (.sh x.d), some (.sh (st.nx k).d), W, none, none] := by
        have e : (Fr.l x).d = x.d := rfl
        rw [e] at z ti
        generalize x.d = X at *
        generalize l.d = L at *
        generalize (st.nx k).d = S2 at *
        generalize st.d = S at *
        generalize k.d = K at *
        simp only [b_fate_within_0, runF, gdO, finR, endF, allO, sSeq, sSet, setR, sOf, leak, mNextS, andThen, mVar, mC, slot, peek, peeks, nrm, O.pk, O.frz, mIf, mTB, mTru, mAnd, mOr, mNot, mOp1, mOp2, mOl1, mOl2, mTup, mLst, mLks, mDct, mDvs, mBi, mBl, mRs, mSm0, mSm1, mSl, mSlL, mPt, mIt, mItZ, zipR, mCall, asArgs, asArg, back, ofRes, mergeO, ofO, ofOS, sIf, sRet, sRetN, sPass, sExp, sAug, sUnp, sPar, sAsg2, sSto, sBrk, sCnt, sFor, sDrop, sMatch, mtL, mOs, setAll, sPut, mItK, mMut0, mMut1, wipeE, unwipe, lcEnd, mLc, mBad, sBad, mNotV, mAndV, mOrV, Tg.put, putAll, List.map_cons, List.map_nil, List.replicate, List.cons_append, List.nil_append, List.getElem?_cons_zero, List.getElem?_cons_succ, Option.bind_some, List.set_cons_zero, List.set_cons_succ, List.take_succ_cons, List.take_zero, List.headD_cons, List.headD_nil, List.tail_cons, List.tail_nil, Option.map_some, Option.map_none, if_true, if_false, Bool.false_eq_true, ite_true, ite_false, Bool.not_true, Bool.not_false, Bool.true_and, Bool.false_and, List.contains, List.elem, List.append_nil, List.length_cons, List.length_nil, Nat.zero_add, Nat.reduceAdd, Nat.reduceLeDiff, lim, Nat.reduceBEq, beq_self_eq_true, Bool.and_self, z, ti, zn]
      show sSeq (sDrop (fun e => forL (.nm 3) b_fate_within_0 (k.d :: w.map Kd.d) e) [3, 4]) (sRet (mVar 0)) _ = sSeq (sDrop (fun e => forL (.nm 3) b_fate_within_0 (w.map Kd.d) e) [3, 4]) (sRet (mVar 0)) _
      have f : forL (.nm 3) b_fate_within_0 (k.d :: w.map Kd.d) [some (.sh l.d), some (.sh st.d), W, none, none] = forL (.nm 3) b_fate_within_0 (w.map Kd.d) [some (.sh x.d), some (.sh (st.nx k).d), W, none, none] := for_cons rfl hb
      simp only [sSeq, sDrop, f]
    | dig => exact fin _ z ti
    | i0 => exact fin _ z ti
    | i1 => exact fin _ z ti
theorem z_fw (l : Lt) (st : Sx) (w : List Kd) : ∃ l' st', Z_fate_within [.sh l.d, .sh st.d, .sh (wS w)] = .rt (.sh (fwF l st w).d) [.sh l', .sh st', .sh (wS w)] := by
  obtain ⟨l', st', o3, o4, h⟩ := fw_loop (some (.sh (wS w))) w l st
  refine ⟨l', st', ?_⟩
  have i := it_w w
  have e : m_fate_within [some (.sh l.d), some (.sh st.d), some (.sh (wS w)), none, none] = .rt (.sh (fwF l st w).d) [some (.sh l'), some (.sh st'), some (.sh (wS w)), o3, o4] := by
    rw [← h]
    simp only [m_fate_within, sSeq, sDrop, sFor, mIt, mVar, slot, sOf, andThen, leak, List.getElem?_cons_zero, List.getElem?_cons_succ, O.frz, List.set_cons_zero, List.set_cons_succ, ofO, i]
  simp only [Z_fate_within, runF, gdO, if_true, List.map_cons, List.map_nil, List.replicate, List.cons_append, List.nil_append, e, finR, endF, List.take_succ_cons, List.take_zero, allO, Option.map_some]
theorem tl_in1 (t : Tl) : inD (.str t.c) (.tup [.str [], .str [114, 117, 110]]) = some (.bl (decide (t = .e ∨ t = .run))) := by cases t <;> rfl
theorem tl_in2 (t : Tl) : inD (.str t.c) (.tup [.str [114, 117, 110], .str [115, 105, 103, 110]]) = some (.bl (decide (t = .run ∨ t = .sign))) := by cases t <;> rfl
theorem tl_sign (t : Tl) : eqD (.str t.c) (.str [115, 105, 103, 110]) = some (.bl (decide (t = .sign))) := by cases t <;> rfl
theorem fr_N (r : Fr) : eqD r.d (.str [78]) = some (.bl (decide (r = .l .N))) := by
  cases r with
  | l x => cases x <;> rfl
  | _ => rfl
theorem fr_ST (r : Fr) : inD r.d (.tup [.str [83], .str [84]]) = some (.bl (decide (r = .l .S ∨ r = .l .T))) := by
  cases r with
  | l x => cases x <;> rfl
  | _ => rfl
theorem z_entry (st : Sx) (w : List Kd) : Z_entry_of [.sh st.d, .sh (wS w)] = .rt (.sh (entD st w)) [.sh st.d, .sh (wS w)] := by
  have s1 := sx_at1 st
  have t1 := tl_in1 st.t
  have t2 := tl_in2 st.t
  have t3 := tl_sign st.t
  have zr := z_read st w
  obtain ⟨a1, a2, f1⟩ := z_fw .N st w
  obtain ⟨a3, a4, f2⟩ := z_fw .S st w
  obtain ⟨a5, a6, f3⟩ := z_fw .T st w
  have g1 := fr_N (fwF .N st w)
  have g2 := fr_ST (fwF .S st w)
  have g3 := fr_ST (fwF .T st w)
  have f1 : Z_fate_within [.sh (.str [78]), .sh st.d, .sh (wS w)] = _ := f1
  have f2 : Z_fate_within [.sh (.str [83]), .sh st.d, .sh (wS w)] = _ := f2
  have f3 : Z_fate_within [.sh (.str [84]), .sh st.d, .sh (wS w)] = _ := f3
  have key : entD st w = .tup [(st.fold w).d, (if decide (st.t = .e ∨ st.t = .run) = true then (if decide (fwF .N st w = .l .N) = true then F.D.non else (fwF .N st w).d) else .non),
      (if decide (st.t = .run ∨ st.t = .sign) = true then (if decide (st.t = .sign) = true then (if decide (fwF .S st w = .l .S ∨ fwF .S st w = .l .T) = true then F.D.non else (fwF .S st w).d) else (if decide (fwF .T st w = .l .S ∨ fwF .T st w = .l .T) = true then F.D.non else (fwF .T st w).d)) else .non)] := by
    unfold entD neuF waiF
    obtain ⟨s, t⟩ := st
    have o1 : ∀ r : Fr, oD (match r with | .l .N => none | r => some r) = if decide (r = .l .N) = true then F.D.non else r.d := fun r => by
      cases r with
      | l x => cases x <;> rfl
      | _ => rfl
    have o2 : ∀ r : Fr, oD (match r with | .l .S => none | .l .T => none | r => some r) = if decide (r = .l .S ∨ r = .l .T) = true then F.D.non else r.d := fun r => by
      cases r with
      | l x => cases x <;> rfl
      | _ => rfl
    cases t with
    | e => rw [← o1]; rfl
    | digit => rfl
    | joined => rfl
    | run => rw [← o1, ← o2 (fwF .T _ w), ← o2 (fwF .S _ w)]; rfl
    | sign => rw [← o1, ← o2 (fwF .T _ w), ← o2 (fwF .S _ w)]; rfl
  rw [key]
  generalize decide (st.t = .e ∨ st.t = .run) = b1 at *
  generalize decide (st.t = .run ∨ st.t = .sign) = b2 at *
  generalize decide (st.t = .sign) = b3 at *
  generalize decide (fwF .N st w = .l .N) = b4 at *
  generalize decide (fwF .S st w = .l .S ∨ fwF .S st w = .l .T) = b5 at *
  generalize decide (fwF .T st w = .l .S ∨ fwF .T st w = .l .T) = b6 at *
  generalize (fwF .N st w).d = R1 at *
  generalize (fwF .S st w).d = R2 at *
  generalize (fwF .T st w).d = R3 at *
  generalize (st.fold w).d = S2 at *
  generalize st.t.c = T at *
  generalize st.d = S at *
  generalize wS w = W at *
  cases b1 <;> cases b2 <;> cases b3 <;> cases b4 <;> cases b5 <;> cases b6 <;>
    simp only [Z_entry_of, m_entry_of, runF, gdO, finR, endF, allO, sSeq, sSet, setR, sOf, leak, mNextS, andThen, mVar, mC, slot, peek, peeks, nrm, O.pk, O.frz, mIf, mTB, mTru, mAnd, mOr, mNot, mOp1, mOp2, mOl1, mOl2, mTup, mLst, mLks, mDct, mDvs, mBi, mBl, mRs, mSm0, mSm1, mSl, mSlL, mPt, mIt, mItZ, zipR, mCall, asArgs, asArg, back, ofRes, mergeO, ofO, ofOS, sIf, sRet, sRetN, sPass, sExp, sAug, sUnp, sPar, sAsg2, sSto, sBrk, sCnt, sFor, sDrop, sMatch, mtL, mOs, setAll, sPut, mItK, mMut0, mMut1, wipeE, unwipe, lcEnd, mLc, mBad, sBad, mNotV, mAndV, mOrV, Tg.put, putAll, List.map_cons, List.map_nil, List.replicate, List.cons_append, List.nil_append, List.getElem?_cons_zero, List.getElem?_cons_succ, Option.bind_some, List.set_cons_zero, List.set_cons_succ, List.take_succ_cons, List.take_zero, List.headD_cons, List.headD_nil, List.tail_cons, List.tail_nil, Option.map_some, Option.map_none, if_true, if_false, Bool.false_eq_true, ite_true, ite_false, Bool.not_true, Bool.not_false, Bool.true_and, Bool.false_and, List.contains, List.elem, List.append_nil, List.length_cons, List.length_nil, Nat.zero_add, Nat.reduceAdd, Nat.reduceLeDiff, lim, Nat.reduceBEq, beq_self_eq_true, Bool.and_self, s1, t1, t2, t3, zr, f1, f2, f3, g1, g2, g3]
theorem z_states : Z_states [] = .rt (.fl (all14.map Sx.d)) [] := by rfl
theorem lc_eff (w : List Kd) : lcL [1] (.nm 1) mYes (mCall Z_entry_of [] [] [(mVar 1), (mVar 0)]) (all14.map Sx.d) [] [some (.sh (wS w)), none] = .ok (all14.map fun st => entD st w) [some (.sh (wS w)), none] := by
  have := lc_map (enc := Sx.d) (own := [1]) (t := .nm 1) (c := mYes) (v := mCall Z_entry_of [] [] [(mVar 1), (mVar 0)]) (e := [some (.sh (wS w)), none]) (f := fun st => entD st w) (as := all14) (acc := []) (fun st _ => by
    have z := z_entry st w
    generalize st.d = S at *
    generalize entD st w = E at *
    generalize wS w = W at *
    simp only [lcOne, mYes, runF, gdO, finR, endF, allO, sSeq, sSet, setR, sOf, leak, mNextS, andThen, mVar, mC, slot, peek, peeks, nrm, O.pk, O.frz, mIf, mTB, mTru, mAnd, mOr, mNot, mOp1, mOp2, mOl1, mOl2, mTup, mLst, mLks, mDct, mDvs, mBi, mBl, mRs, mSm0, mSm1, mSl, mSlL, mPt, mIt, mItZ, zipR, mCall, asArgs, asArg, back, ofRes, mergeO, ofO, ofOS, sIf, sRet, sRetN, sPass, sExp, sAug, sUnp, sPar, sAsg2, sSto, sBrk, sCnt, sFor, sDrop, sMatch, mtL, mOs, setAll, sPut, mItK, mMut0, mMut1, wipeE, unwipe, lcEnd, mLc, mBad, sBad, mNotV, mAndV, mOrV, Tg.put, putAll, List.map_cons, List.map_nil, List.replicate, List.cons_append, List.nil_append, List.getElem?_cons_zero, List.getElem?_cons_succ, Option.bind_some, List.set_cons_zero, List.set_cons_succ, List.take_succ_cons, List.take_zero, List.headD_cons, List.headD_nil, List.tail_cons, List.tail_nil, Option.map_some, Option.map_none, if_true, if_false, Bool.false_eq_true, ite_true, ite_false, Bool.not_true, Bool.not_false, Bool.true_and, Bool.false_and, List.contains, List.elem, List.append_nil, List.length_cons, List.length_nil, Nat.zero_add, Nat.reduceAdd, Nat.reduceLeDiff, lim, Nat.reduceBEq, beq_self_eq_true, Bool.and_self, z])
  rw [this]
  rfl
theorem z_effect_of (w : List Kd) : Z_effect_of [.sh (wS w)] = .rt (.fl (all14.map fun st => entD st w)) [.sh (wS w)] := by
  have z := z_states
  have l := lc_eff w
  have hl : ((all14.map Sx.d).length ≤ 16777216) = True := eq_true (by decide)
  have i : itL (.lst (all14.map Sx.d)) = some (all14.map Sx.d) := rfl
  generalize all14.map Sx.d = A at *
  generalize (all14.map fun st => entD st w) = B at *
  generalize wS w = W at *
  simp only [Z_effect_of, m_effect_of, runF, gdO, finR, endF, allO, sSeq, sSet, setR, sOf, leak, mNextS, andThen, mVar, mC, slot, peek, peeks, nrm, O.pk, O.frz, mIf, mTB, mTru, mAnd, mOr, mNot, mOp1, mOp2, mOl1, mOl2, mTup, mLst, mLks, mDct, mDvs, mBi, mBl, mRs, mSm0, mSm1, mSl, mSlL, mPt, mIt, mItZ, zipR, mCall, asArgs, asArg, back, ofRes, mergeO, ofO, ofOS, sIf, sRet, sRetN, sPass, sExp, sAug, sUnp, sPar, sAsg2, sSto, sBrk, sCnt, sFor, sDrop, sMatch, mtL, mOs, setAll, sPut, mItK, mMut0, mMut1, wipeE, unwipe, lcEnd, mLc, mBad, sBad, mNotV, mAndV, mOrV, Tg.put, putAll, List.map_cons, List.map_nil, List.replicate, List.cons_append, List.nil_append, List.getElem?_cons_zero, List.getElem?_cons_succ, Option.bind_some, List.set_cons_zero, List.set_cons_succ, List.take_succ_cons, List.take_zero, List.headD_cons, List.headD_nil, List.tail_cons, List.tail_nil, Option.map_some, Option.map_none, if_true, if_false, Bool.false_eq_true, ite_true, ite_false, Bool.not_true, Bool.not_false, Bool.true_and, Bool.false_and, List.contains, List.elem, List.append_nil, List.length_cons, List.length_nil, Nat.zero_add, Nat.reduceAdd, Nat.reduceLeDiff, lim, Nat.reduceBEq, beq_self_eq_true, Bool.and_self, z, i, hl, l]
end F
end

section
set_option linter.all false
set_option autoImplicit false
set_option maxRecDepth 100000
set_option maxHeartbeats 1000000
/-! what the laws of effects draw -/
namespace F
abbrev bg (a m : Int) : O := .fl [.int a, .int m]
theorem ixI20 : ixI 2 0 = some 0 := rfl
theorem ixI21 : ixI 2 1 = some 1 := rfl
theorem bg0 (a m : Int) : ixD (.lst [.int a, .int m]) (.int 0) = some (.int a) := rfl
theorem bg1 (a m : Int) : ixD (.lst [.int a, .int m]) (.int 1) = some (.int m) := rfl
theorem int_int (i : Int) : intD [.int i] = some (.int i) := rfl
theorem mod_ok (i j : Int) (h : 0 < j) : modD (.int i) (.int j) = some (.int (i % j)) := if_pos h
theorem div_ok (i j : Int) (h : 0 < j) (h2 : j < 1073741824) : divD (.int i) (.int j) = some (.int (i / j)) := if_pos ⟨h, h2⟩
theorem mulOk_r (i j : Int) (h : -18446744073709551616 < j) (h2 : j < 18446744073709551616) : mulD (.int i) (.int j) = some (.int (i * j)) := if_pos (by simp [mulOk, h, h2])
theorem mulOk_l (i j : Int) (h : -18446744073709551616 < i) (h2 : i < 18446744073709551616) : mulD (.int i) (.int j) = some (.int (i * j)) := if_pos (by simp [mulOk, h, h2])
theorem z_take (a m n : Int) (h0 : 0 < n) (h1 : n < 1073741824) : ∃ a' m' r, Z__law_take [bg a m, .sh (.int n)] = .rt (.sh (.int r)) [bg a' m', .sh (.int n)] ∧ 0 ≤ r ∧ r < n := by
  have g := gt_int a 0
  by_cases ha : 0 < a
  · rw [decide_eq_true ha] at g
    refine ⟨a / n, m, a % n, ?_, Int.emod_nonneg _ (by omega), Int.emod_lt_of_pos _ h0⟩
    have e1 := mod_ok a n h0
    have e2 := div_ok a n h0 h1
    simp only [Z__law_take, m__law_take, runF, gdO, finR, endF, allO, sSeq, sSet, setR, sOf, leak, mNextS, andThen, mVar, mC, slot, peek, peeks, nrm, O.pk, O.frz, mIf, mTB, mTru, mAnd, mOr, mNot, mOp1, mOp2, mOl1, mOl2, mTup, mLst, mLks, mDct, mDvs, mBi, mBl, mRs, mSm0, mSm1, mSl, mSlL, mPt, mIt, mItZ, zipR, mCall, asArgs, asArg, back, ofRes, mergeO, ofO, ofOS, sIf, sRet, sRetN, sPass, sExp, sAug, sUnp, sPar, sAsg2, sSto, sBrk, sCnt, sFor, sDrop, sMatch, mtL, mOs, setAll, sPut, mItK, mMut0, mMut1, wipeE, unwipe, lcEnd, mLc, mBad, sBad, mNotV, mAndV, mOrV, Tg.put, putAll, List.map_cons, List.map_nil, List.replicate, List.cons_append, List.nil_append, List.getElem?_cons_zero, List.getElem?_cons_succ, Option.bind_some, List.set_cons_zero, List.set_cons_succ, List.take_succ_cons, List.take_zero, List.headD_cons, List.headD_nil, List.tail_cons, List.tail_nil, Option.map_some, Option.map_none, if_true, if_false, Bool.false_eq_true, ite_true, ite_false, Bool.not_true, Bool.not_false, Bool.true_and, Bool.false_and, List.contains, List.elem, List.append_nil, List.length_cons, List.length_nil, Nat.zero_add, Nat.reduceAdd, Nat.reduceLeDiff, lim, Nat.reduceBEq, beq_self_eq_true, Bool.and_self, bg0, g, int_int, e1, e2, ixI20]
  · rw [decide_eq_false ha] at g
    refine ⟨a, (m * 48271 + 1871) % 2147483399, (m * 48271 + 1871) % 2147483399 / 13 * 69621 % 2147483477 / 32 % n, ?_, Int.emod_nonneg _ (by omega), Int.emod_lt_of_pos _ h0⟩
    have e1 := mulOk_r m 48271 (by decide) (by decide)
    have e2 := mod_ok (m * 48271 + 1871) 2147483399 (by decide)
    generalize (m * 48271 + 1871) % 2147483399 = m2 at *
    have e3 := div_ok m2 13 (by decide) (by decide)
    have e4 := mulOk_r (m2 / 13) 69621 (by decide) (by decide)
    have e5 := mod_ok (m2 / 13 * 69621) 2147483477 (by decide)
    have e6 := div_ok (m2 / 13 * 69621 % 2147483477) 32 (by decide) (by decide)
    have e7 := mod_ok (m2 / 13 * 69621 % 2147483477 / 32) n h0
    simp only [Z__law_take, m__law_take, runF, gdO, finR, endF, allO, sSeq, sSet, setR, sOf, leak, mNextS, andThen, mVar, mC, slot, peek, peeks, nrm, O.pk, O.frz, mIf, mTB, mTru, mAnd, mOr, mNot, mOp1, mOp2, mOl1, mOl2, mTup, mLst, mLks, mDct, mDvs, mBi, mBl, mRs, mSm0, mSm1, mSl, mSlL, mPt, mIt, mItZ, zipR, mCall, asArgs, asArg, back, ofRes, mergeO, ofO, ofOS, sIf, sRet, sRetN, sPass, sExp, sAug, sUnp, sPar, sAsg2, sSto, sBrk, sCnt, sFor, sDrop, sMatch, mtL, mOs, setAll, sPut, mItK, mMut0, mMut1, wipeE, unwipe, lcEnd, mLc, mBad, sBad, mNotV, mAndV, mOrV, Tg.put, putAll, List.map_cons, List.map_nil, List.replicate, List.cons_append, List.nil_append, List.getElem?_cons_zero, List.getElem?_cons_succ, Option.bind_some, List.set_cons_zero, List.set_cons_succ, List.take_succ_cons, List.take_zero, List.headD_cons, List.headD_nil, List.tail_cons, List.tail_nil, Option.map_some, Option.map_none, if_true, if_false, Bool.false_eq_true, ite_true, ite_false, Bool.not_true, Bool.not_false, Bool.true_and, Bool.false_and, List.contains, List.elem, List.append_nil, List.length_cons, List.length_nil, Nat.zero_add, Nat.reduceAdd, Nat.reduceLeDiff, lim, Nat.reduceBEq, beq_self_eq_true, Bool.and_self, bg0, bg1, g, int_int, e1, add_int, e2, ixI21, e3, e4, e5, e6, e7]
theorem z_of_str (a m : Int) (x : List Nat) (h0 : x ≠ []) (h1 : x.length < 1000) : ∃ a' m' c, c ∈ x ∧ Z__law_of [bg a m, .sh (.str x)] = .rt (.sh (.str [c])) [bg a' m', .sh (.str x)] := by
  have hp : 0 < x.length := List.length_pos_iff.mpr h0
  obtain ⟨a', m', r, hz, r0, r1⟩ := z_take a m x.length (by omega) (by omega)
  obtain ⟨c, hc, hg⟩ := getI_nat r0 r1
  have e : ixD (.str x) (.int r) = some (.str [c]) := by
    show (getI x r).map _ = _
    rw [hg]
    rfl
  refine ⟨a', m', c, hc, ?_⟩
  simp only [Z__law_of, m__law_of, runF, gdO, finR, endF, allO, sSeq, sSet, setR, sOf, leak, mNextS, andThen, mVar, mC, slot, peek, peeks, nrm, O.pk, O.frz, mIf, mTB, mTru, mAnd, mOr, mNot, mOp1, mOp2, mOl1, mOl2, mTup, mLst, mLks, mDct, mDvs, mBi, mBl, mRs, mSm0, mSm1, mSl, mSlL, mPt, mIt, mItZ, zipR, mCall, asArgs, asArg, back, ofRes, mergeO, ofO, ofOS, sIf, sRet, sRetN, sPass, sExp, sAug, sUnp, sPar, sAsg2, sSto, sBrk, sCnt, sFor, sDrop, sMatch, mtL, mOs, setAll, sPut, mItK, mMut0, mMut1, wipeE, unwipe, lcEnd, mLc, mBad, sBad, mNotV, mAndV, mOrV, Tg.put, putAll, List.map_cons, List.map_nil, List.replicate, List.cons_append, List.nil_append, List.getElem?_cons_zero, List.getElem?_cons_succ, Option.bind_some, List.set_cons_zero, List.set_cons_succ, List.take_succ_cons, List.take_zero, List.headD_cons, List.headD_nil, List.tail_cons, List.tail_nil, Option.map_some, Option.map_none, if_true, if_false, Bool.false_eq_true, ite_true, ite_false, Bool.not_true, Bool.not_false, Bool.true_and, Bool.false_and, List.contains, List.elem, List.append_nil, List.length_cons, List.length_nil, Nat.zero_add, Nat.reduceAdd, Nat.reduceLeDiff, lim, Nat.reduceBEq, beq_self_eq_true, Bool.and_self, len_str, hz, e]
theorem len_lst (l : List F.D) : lenD [.lst l] = some (.int (l.length : Nat)) := rfl
theorem z_of_lst (a m : Int) (x : List F.D) (h0 : x ≠ []) (h1 : x.length < 1000) : ∃ a' m' c, c ∈ x ∧ Z__law_of [bg a m, .sh (.lst x)] = .rt (.sh c) [bg a' m', .sh (.lst x)] := by
  have hp : 0 < x.length := List.length_pos_iff.mpr h0
  obtain ⟨a', m', r, hz, r0, r1⟩ := z_take a m x.length (by omega) (by omega)
  obtain ⟨c, hc, hg⟩ := getI_nat r0 r1
  have e : ixD (.lst x) (.int r) = some c := hg
  refine ⟨a', m', c, hc, ?_⟩
  simp only [Z__law_of, m__law_of, runF, gdO, finR, endF, allO, sSeq, sSet, setR, sOf, leak, mNextS, andThen, mVar, mC, slot, peek, peeks, nrm, O.pk, O.frz, mIf, mTB, mTru, mAnd, mOr, mNot, mOp1, mOp2, mOl1, mOl2, mTup, mLst, mLks, mDct, mDvs, mBi, mBl, mRs, mSm0, mSm1, mSl, mSlL, mPt, mIt, mItZ, zipR, mCall, asArgs, asArg, back, ofRes, mergeO, ofO, ofOS, sIf, sRet, sRetN, sPass, sExp, sAug, sUnp, sPar, sAsg2, sSto, sBrk, sCnt, sFor, sDrop, sMatch, mtL, mOs, setAll, sPut, mItK, mMut0, mMut1, wipeE, unwipe, lcEnd, mLc, mBad, sBad, mNotV, mAndV, mOrV, Tg.put, putAll, List.map_cons, List.map_nil, List.replicate, List.cons_append, List.nil_append, List.getElem?_cons_zero, List.getElem?_cons_succ, Option.bind_some, List.set_cons_zero, List.set_cons_succ, List.take_succ_cons, List.take_zero, List.headD_cons, List.headD_nil, List.tail_cons, List.tail_nil, Option.map_some, Option.map_none, if_true, if_false, Bool.false_eq_true, ite_true, ite_false, Bool.not_true, Bool.not_false, Bool.true_and, Bool.false_and, List.contains, List.elem, List.append_nil, List.length_cons, List.length_nil, Nat.zero_add, Nat.reduceAdd, Nat.reduceLeDiff, lim, Nat.reduceBEq, beq_self_eq_true, Bool.and_self, len_lst, hz, e]
def chs : Kd → List Nat
  | .L => [97, 98, 120, 122, 43]
  | .R => [65, 66, 77, 42]
  | .A => [78, 81, 90]
  | .D => [48, 49, 55, 57]
  | .S => [44, 46, 58]
  | .T => [36, 35]
  | .N => [32, 33, 45, 40, 93]
theorem chs_alpha (k : Kd) : ∀ c ∈ chs k, c ∈ alpha := by cases k <;> decide
theorem z_char (a m : Int) (k : Kd) : ∃ a' m' c, c ∈ alpha ∧ Z__law_character [bg a m, .sh k.d] = .rt (.sh (.str [c])) [bg a' m', .sh k.d] := by
  obtain ⟨a', m', c, hc, hz⟩ := z_of_str a m (chs k) (by cases k <;> decide) (by cases k <;> decide)
  refine ⟨a', m', c, chs_alpha k c hc, ?_⟩
  have key : ∀ (K : F.D) (l : List Nat), getKD (.dct [(.s [76], .str [97, 98, 120, 122, 43]), (.s [82], .str [65, 66, 77, 42]), (.s [65], .str [78, 81, 90]), (.s [68], .str [48, 49, 55, 57]), (.s [83], .str [44, 46, 58]), (.s [84], .str [36, 35]), (.s [78], .str [32, 33, 45, 40, 93])]) K = some (.str l) →
      Z__law_of [bg a m, .sh (.str l)] = .rt (.sh (.str [c])) [bg a' m', .sh (.str l)] → Z__law_character [bg a m, .sh K] = .rt (.sh (.str [c])) [bg a' m', .sh K] := fun K l h1 h2 => by
    simp only [Z__law_character, m__law_character, runF, gdO, finR, endF, allO, sSeq, sSet, setR, sOf, leak, mNextS, andThen, mVar, mC, slot, peek, peeks, nrm, O.pk, O.frz, mIf, mTB, mTru, mAnd, mOr, mNot, mOp1, mOp2, mOl1, mOl2, mTup, mLst, mLks, mDct, mDvs, mBi, mBl, mRs, mSm0, mSm1, mSl, mSlL, mPt, mIt, mItZ, zipR, mCall, asArgs, asArg, back, ofRes, mergeO, ofO, ofOS, sIf, sRet, sRetN, sPass, sExp, sAug, sUnp, sPar, sAsg2, sSto, sBrk, sCnt, sFor, sDrop, sMatch, mtL, mOs, setAll, sPut, mItK, mMut0, mMut1, wipeE, unwipe, lcEnd, mLc, mBad, sBad, mNotV, mAndV, mOrV, Tg.put, putAll, List.map_cons, List.map_nil, List.replicate, List.cons_append, List.nil_append, List.getElem?_cons_zero, List.getElem?_cons_succ, Option.bind_some, List.set_cons_zero, List.set_cons_succ, List.take_succ_cons, List.take_zero, List.headD_cons, List.headD_nil, List.tail_cons, List.tail_nil, Option.map_some, Option.map_none, if_true, if_false, Bool.false_eq_true, ite_true, ite_false, Bool.not_true, Bool.not_false, Bool.true_and, Bool.false_and, List.contains, List.elem, List.append_nil, List.length_cons, List.length_nil, Nat.zero_add, Nat.reduceAdd, Nat.reduceLeDiff, lim, Nat.reduceBEq, beq_self_eq_true, Bool.and_self, h1, h2]
  exact key k.d (chs k) (by cases k <;> rfl) hz
theorem z_of_kd (a m : Int) (w : List Kd) (h0 : w ≠ []) (h1 : w.length < 1000) : ∃ a' m' k, Z__law_of [bg a m, .sh (wS w)] = .rt (.sh (Kd.d k)) [bg a' m', .sh (wS w)] := by
  obtain ⟨a', m', c, hc, hz⟩ := z_of_str a m (w.map Kd.c) (by simpa using h0) (by simpa using h1)
  obtain ⟨k, _, rfl⟩ := List.mem_map.mp hc
  exact ⟨a', m', k, hz⟩
theorem text_loop (w : List Kd) (n : Option O) (h0 : w ≠ []) (h1 : w.length < 1000) : ∀ (items acc : List F.D) (a m : Int), ∃ (a' m' : Int) (x : List Nat), x.length = items.length ∧ (∀ c ∈ x, c ∈ alpha) ∧
    lcL [3] (.nm 3) mYes (mCall Z__law_character [.bo, .lk] [] [(mVar 0), (mCall Z__law_of [.bo, .lk] [] [(mVar 0), (mVar 1)])]) items acc [some (bg a m), some (.sh (wS w)), n, none] = .ok (acc ++ x.map chD) [some (bg a' m'), some (.sh (wS w)), n, none]
  | [], acc, a, m => ⟨a, m, [], rfl, (fun _ h => by cases h), by simp [lcL]⟩
  | d :: items, acc, a, m => by
    obtain ⟨a1, m1, k, hz1⟩ := z_of_kd a m w h0 h1
    obtain ⟨a2, m2, c, hc, hz2⟩ := z_char a1 m1 k
    obtain ⟨a3, m3, x, hx, hal, ih⟩ := text_loop w n h0 h1 items (acc ++ [.str [c]]) a2 m2
    refine ⟨a3, m3, c :: x, by simp [hx], fun q hq => ?_, ?_⟩
    · rcases List.mem_cons.mp hq with rfl | hq
      · exact hc
      · exact hal q hq
    · have e3 : lcOne [3] (.nm 3) mYes (mCall Z__law_character [.bo, .lk] [] [(mVar 0), (mCall Z__law_of [.bo, .lk] [] [(mVar 0), (mVar 1)])]) d [some (bg a m), some (.sh (wS w)), n, none] = some (some (.str [c]), [some (bg a2 m2), some (.sh (wS w)), n, none]) := by
        generalize wS w = W at *
        generalize k.d = K at *
        simp only [lcOne, mYes, runF, gdO, finR, endF, allO, sSeq, sSet, setR, sOf, leak, mNextS, andThen, mVar, mC, slot, peek, peeks, nrm, O.pk, O.frz, mIf, mTB, mTru, mAnd, mOr, mNot, mOp1, mOp2, mOl1, mOl2, mTup, mLst, mLks, mDct, mDvs, mBi, mBl, mRs, mSm0, mSm1, mSl, mSlL, mPt, mIt, mItZ, zipR, mCall, asArgs, asArg, back, ofRes, mergeO, ofO, ofOS, sIf, sRet, sRetN, sPass, sExp, sAug, sUnp, sPar, sAsg2, sSto, sBrk, sCnt, sFor, sDrop, sMatch, mtL, mOs, setAll, sPut, mItK, mMut0, mMut1, wipeE, unwipe, lcEnd, mLc, mBad, sBad, mNotV, mAndV, mOrV, Tg.put, putAll, List.map_cons, List.map_nil, List.replicate, List.cons_append, List.nil_append, List.getElem?_cons_zero, List.getElem?_cons_succ, Option.bind_some, List.set_cons_zero, List.set_cons_succ, List.take_succ_cons, List.take_zero, List.headD_cons, List.headD_nil, List.tail_cons, List.tail_nil, Option.map_some, Option.map_none, if_true, if_false, Bool.false_eq_true, ite_true, ite_false, Bool.not_true, Bool.not_false, Bool.true_and, Bool.false_and, List.contains, List.elem, List.append_nil, List.length_cons, List.length_nil, Nat.zero_add, Nat.reduceAdd, Nat.reduceLeDiff, lim, Nat.reduceBEq, beq_self_eq_true, Bool.and_self, hz1, hz2]
      rw [lc_eq e3, show acc ++ (c :: x).map chD = acc ++ (some (F.D.str [c])).toList ++ x.map chD by simp [chD]]
      exact ih
theorem z_text (a m : Int) (w : List Kd) (N : Int) (hN : 0 ≤ N) (hN2 : N < 1000) (h0 : w ≠ []) (h1 : w.length < 1000) : ∃ a' m' x, Al N.toNat x ∧ Z__law_text [bg a m, .sh (wS w), .sh (.int N)] = .rt (.sh (.str x)) [bg a' m', .sh (wS w), .sh (.int N)] := by
  obtain ⟨a1, m1, r, hz, r0, r1⟩ := z_take a m (N + 1) (by omega) (by omega)
  obtain ⟨a2, m2, x, hx, hal, hl⟩ := text_loop w (some (.sh (.int N))) h0 h1 (rngF 0 r.toNat) [] a1 m1
  rw [rngF_len] at hx
  refine ⟨a2, m2, x, ⟨hal, by omega⟩, ?_⟩
  have i : itR1 (.int r) = some (rngF 0 r.toNat) := if_pos ⟨by omega, by omega⟩
  have l2 : ((rngF 0 r.toNat).length ≤ 16777216) = True := eq_true (by rw [rngF_len]; omega)
  have j := join_1 x (by omega)
  rw [List.nil_append] at hl
  generalize wS w = W at *
  generalize rngF 0 r.toNat = I at *
  generalize x.map chD = J at *
  simp only [Z__law_text, m__law_text, runF, gdO, finR, endF, allO, sSeq, sSet, setR, sOf, leak, mNextS, andThen, mVar, mC, slot, peek, peeks, nrm, O.pk, O.frz, mIf, mTB, mTru, mAnd, mOr, mNot, mOp1, mOp2, mOl1, mOl2, mTup, mLst, mLks, mDct, mDvs, mBi, mBl, mRs, mSm0, mSm1, mSl, mSlL, mPt, mIt, mItZ, zipR, mCall, asArgs, asArg, back, ofRes, mergeO, ofO, ofOS, sIf, sRet, sRetN, sPass, sExp, sAug, sUnp, sPar, sAsg2, sSto, sBrk, sCnt, sFor, sDrop, sMatch, mtL, mOs, setAll, sPut, mItK, mMut0, mMut1, wipeE, unwipe, lcEnd, mLc, mBad, sBad, mNotV, mAndV, mOrV, Tg.put, putAll, List.map_cons, List.map_nil, List.replicate, List.cons_append, List.nil_append, List.getElem?_cons_zero, List.getElem?_cons_succ, Option.bind_some, List.set_cons_zero, List.set_cons_succ, List.take_succ_cons, List.take_zero, List.headD_cons, List.headD_nil, List.tail_cons, List.tail_nil, Option.map_some, Option.map_none, if_true, if_false, Bool.false_eq_true, ite_true, ite_false, Bool.not_true, Bool.not_false, Bool.true_and, Bool.false_and, List.contains, List.elem, List.append_nil, List.length_cons, List.length_nil, Nat.zero_add, Nat.reduceAdd, Nat.reduceLeDiff, lim, Nat.reduceBEq, beq_self_eq_true, Bool.and_self, add_int, hz, i, l2, hl, j]
theorem lt_int (i j : Int) : ltD (.int i) (.int j) = some (.bl (decide (i < j))) := rfl
theorem ge_int (i j : Int) : geD (.int i) (.int j) = some (.bl (decide (j ≤ i))) := rfl
theorem abs_int (i : Int) : absD [.int i] = some (.int (if i < 0 then -i else i)) := rfl
theorem pow18 : powD (.int 10) (.int 18) = some (.int 1000000000000000000) := by rfl
theorem z_bag (ns : List Int) (h : ns.length ≤ 63) (i : Int) (h0 : 0 ≤ i) : ∃ a m, Z__law_bag [.sh (.lst (ns.map .int)), .sh (.int i)] = .rt (bg a m) [.sh (.lst (ns.map .int)), .sh (.int i)] := by
  have hc : ∃ c : Int, (if (i : Int) < ((ns.map F.D.int).length : Nat) then ixD (.lst (ns.map .int)) (.int i) = some (.int c) else c = 0) := by
    by_cases hi : i < ((ns.map F.D.int).length : Nat)
    · obtain ⟨d, hd, hg⟩ := getI_nat h0 hi
      obtain ⟨c, _, rfl⟩ := List.mem_map.mp hd
      exact ⟨c, by rw [if_pos hi]; exact hg⟩
    · exact ⟨0, by rw [if_neg hi]⟩
  obtain ⟨c, hc⟩ := hc
  have e1 := mulOk_l 7193 i (by decide) (by decide)
  -- the loop
  have lp : ∀ (ds : List F.D) (m : Int), (∀ d ∈ ds, ∃ j z : Int, d = .tup [.int j, .int z]) → ∃ m', forL (.tp [(.nm 4), (.nm 5)]) b__law_bag_0 ds [some (.sh (.lst (ns.map .int))), some (.sh (.int i)), some (.sh (.int c)), some (.sh (.int m)), none, none] = .nx [some (.sh (.lst (ns.map .int))), some (.sh (.int i)), some (.sh (.int c)), some (.sh (.int m')), none, none] := by
    intro ds
    induction ds with
    | nil => exact fun m _ => ⟨m, rfl⟩
    | cons d ds ih =>
      intro m hd
      obtain ⟨j, z, rfl⟩ := hd d (List.mem_cons_self ..)
      have f1 := mulOk_r m 39373 (by decide) (by decide)
      have f2 := mod_ok z 2147483399 (by decide)
      have f3 := mulOk_l 211 j (by decide) (by decide)
      have f4 := mod_ok (m * 39373 + z % 2147483399 + 211 * j + 5) 2147483563 (by decide)
      obtain ⟨m', hm⟩ := ih ((m * 39373 + z % 2147483399 + 211 * j + 5) % 2147483563) fun d hd' => hd d (List.mem_cons_of_mem _ hd')
      refine ⟨m', ?_⟩
      rw [← hm]
      generalize ns.map F.D.int = S at *
      refine for_cons rfl ?_
      simp only [b__law_bag_0, runF, gdO, finR, endF, allO, sSeq, sSet, setR, sOf, leak, mNextS, andThen, mVar, mC, slot, peek, peeks, nrm, O.pk, O.frz, mIf, mTB, mTru, mAnd, mOr, mNot, mOp1, mOp2, mOl1, mOl2, mTup, mLst, mLks, mDct, mDvs, mBi, mBl, mRs, mSm0, mSm1, mSl, mSlL, mPt, mIt, mItZ, zipR, mCall, asArgs, asArg, back, ofRes, mergeO, ofO, ofOS, sIf, sRet, sRetN, sPass, sExp, sAug, sUnp, sPar, sAsg2, sSto, sBrk, sCnt, sFor, sDrop, sMatch, mtL, mOs, setAll, sPut, mItK, mMut0, mMut1, wipeE, unwipe, lcEnd, mLc, mBad, sBad, mNotV, mAndV, mOrV, Tg.put, putAll, List.map_cons, List.map_nil, List.replicate, List.cons_append, List.nil_append, List.getElem?_cons_zero, List.getElem?_cons_succ, Option.bind_some, List.set_cons_zero, List.set_cons_succ, List.take_succ_cons, List.take_zero, List.headD_cons, List.headD_nil, List.tail_cons, List.tail_nil, Option.map_some, Option.map_none, if_true, if_false, Bool.false_eq_true, ite_true, ite_false, Bool.not_true, Bool.not_false, Bool.true_and, Bool.false_and, List.contains, List.elem, List.append_nil, List.length_cons, List.length_nil, Nat.zero_add, Nat.reduceAdd, Nat.reduceLeDiff, lim, Nat.reduceBEq, beq_self_eq_true, Bool.and_self, f1, f2, f3, f4, add_int, int_int]
  have sl : slL (.lst (ns.map .int)) none (some 50) = some (cut (ns.map F.D.int) none (some 50)) := rfl
  have it : itEL (.lst (cut (ns.map F.D.int) none (some 50))) = some (enumF 0 (cut (ns.map F.D.int) none (some 50))) := rfl
  obtain ⟨m', hm⟩ := lp (enumF 0 (cut (ns.map F.D.int) none (some 50))) (7193 * i + 401) (fun d hd => by
    obtain ⟨j, q, hq, rfl⟩ := mem_enum hd
    have hq2 : q ∈ ns.map F.D.int := List.mem_of_mem_drop (List.mem_of_mem_take hq)
    obtain ⟨z, _, rfl⟩ := List.mem_map.mp hq2
    exact ⟨j, z, rfl⟩)
  have ll := len_lst (ns.map F.D.int)
  have lt := lt_int i ((ns.map F.D.int).length : Nat)
  have ge := ge_int (if c < 0 then -c else c) 1000000000000000000
  have ab := abs_int c
  refine ⟨if 1000000000000000000 ≤ (if c < 0 then -c else c) then (if c < 0 then -c else c) else 0, m', ?_⟩
  generalize (if c < 0 then -c else c) = ca at *
  generalize enumF 0 (cut (ns.map F.D.int) none (some 50)) = E at *
  generalize cut (ns.map F.D.int) none (some 50) = C at *
  generalize ((ns.map F.D.int).length : Int) = L at *
  generalize ns.map F.D.int = S at *
  by_cases g1 : i < L
  · by_cases g2 : 1000000000000000000 ≤ ca <;> simp only [g1, g2, if_true, if_false, decide_true, decide_false] at hc lt ge ⊢ <;>
      simp only [Z__law_bag, m__law_bag, runF, gdO, finR, endF, allO, sSeq, sSet, setR, sOf, leak, mNextS, andThen, mVar, mC, slot, peek, peeks, nrm, O.pk, O.frz, mIf, mTB, mTru, mAnd, mOr, mNot, mOp1, mOp2, mOl1, mOl2, mTup, mLst, mLks, mDct, mDvs, mBi, mBl, mRs, mSm0, mSm1, mSl, mSlL, mPt, mIt, mItZ, zipR, mCall, asArgs, asArg, back, ofRes, mergeO, ofO, ofOS, sIf, sRet, sRetN, sPass, sExp, sAug, sUnp, sPar, sAsg2, sSto, sBrk, sCnt, sFor, sDrop, sMatch, mtL, mOs, setAll, sPut, mItK, mMut0, mMut1, wipeE, unwipe, lcEnd, mLc, mBad, sBad, mNotV, mAndV, mOrV, Tg.put, putAll, List.map_cons, List.map_nil, List.replicate, List.cons_append, List.nil_append, List.getElem?_cons_zero, List.getElem?_cons_succ, Option.bind_some, List.set_cons_zero, List.set_cons_succ, List.take_succ_cons, List.take_zero, List.headD_cons, List.headD_nil, List.tail_cons, List.tail_nil, Option.map_some, Option.map_none, if_true, if_false, Bool.false_eq_true, ite_true, ite_false, Bool.not_true, Bool.not_false, Bool.true_and, Bool.false_and, List.contains, List.elem, List.append_nil, List.length_cons, List.length_nil, Nat.zero_add, Nat.reduceAdd, Nat.reduceLeDiff, lim, Nat.reduceBEq, beq_self_eq_true, Bool.and_self, ll, lt, hc, e1, add_int, sl, it, hm, ab, pow18, ge]
  · rw [if_neg g1] at hc
    subst hc
    by_cases g2 : 1000000000000000000 ≤ ca <;> simp only [g1, g2, if_true, if_false, decide_true, decide_false] at lt ge ⊢ <;>
      simp only [Z__law_bag, m__law_bag, runF, gdO, finR, endF, allO, sSeq, sSet, setR, sOf, leak, mNextS, andThen, mVar, mC, slot, peek, peeks, nrm, O.pk, O.frz, mIf, mTB, mTru, mAnd, mOr, mNot, mOp1, mOp2, mOl1, mOl2, mTup, mLst, mLks, mDct, mDvs, mBi, mBl, mRs, mSm0, mSm1, mSl, mSlL, mPt, mIt, mItZ, zipR, mCall, asArgs, asArg, back, ofRes, mergeO, ofO, ofOS, sIf, sRet, sRetN, sPass, sExp, sAug, sUnp, sPar, sAsg2, sSto, sBrk, sCnt, sFor, sDrop, sMatch, mtL, mOs, setAll, sPut, mItK, mMut0, mMut1, wipeE, unwipe, lcEnd, mLc, mBad, sBad, mNotV, mAndV, mOrV, Tg.put, putAll, List.map_cons, List.map_nil, List.replicate, List.cons_append, List.nil_append, List.getElem?_cons_zero, List.getElem?_cons_succ, Option.bind_some, List.set_cons_zero, List.set_cons_succ, List.take_succ_cons, List.take_zero, List.headD_cons, List.headD_nil, List.tail_cons, List.tail_nil, Option.map_some, Option.map_none, if_true, if_false, Bool.false_eq_true, ite_true, ite_false, Bool.not_true, Bool.not_false, Bool.true_and, Bool.false_and, List.contains, List.elem, List.append_nil, List.length_cons, List.length_nil, Nat.zero_add, Nat.reduceAdd, Nat.reduceLeDiff, lim, Nat.reduceBEq, beq_self_eq_true, Bool.and_self, ll, lt, e1, add_int, sl, it, hm, ab, pow18, ge]
theorem max_int (i j : Int) : max2D [.int i, .int j] = some (.int (if j > i then j else i)) := rfl
theorem min_int (i j : Int) : min2D [.int i, .int j] = some (.int (if j < i then j else i)) := rfl
end F
end

section
set_option linter.all false
set_option autoImplicit false
set_option maxRecDepth 100000
set_option maxHeartbeats 4000000
/-! least texts: only the kind of a text matters -/
namespace F
theorem run_snoc (w : List Kd) (k : Kd) : Q.run (w ++ [k]) = (Q.run w).nx k := by rw [run_app]; rfl
theorem lead_run (w : List Kd) : leadO w = leadO (Q.run w).lw := by
  refine snoc_ind (P := fun w => leadO w = leadO (Q.run w).lw) rfl (fun w k ih => ?_) w
  have key : (okQ.all fun q => kds.all fun k => decide (leadO (q.nx k).lw = (leadO q.lw).or (leadO [k]))) = true := by decide +kernel
  have h := of_decide_eq_true (List.all_eq_true.mp (List.all_eq_true.mp key _ (mem_okQ (ok_run w))) k (memK k))
  rw [run_snoc, h, lead_app, ih]
theorem fold_runS (st : Sx) (hs : st.ok = true) (w : List Kd) : st.fold w = st.fold (Q.run w).lw := by
  refine snoc_ind (P := fun w => st.fold w = st.fold (Q.run w).lw) rfl (fun w k ih => ?_) w
  rw [run_snoc, act_x hs (ok_run w), Sx.fold_app, ih]
  rfl
def relF (l : Lt) (st : Sx) : Bool := match l with
  | .N => decide (st.t = .e ∨ st.t = .run)
  | .S => decide (st.t = .sign)
  | .T => decide (st.t = .run)
def lts : List Lt := [.N, .S, .T]
theorem memL (l : Lt) : l ∈ lts := by cases l <;> decide
theorem fw_key : (all14.all fun st => lts.all fun l => !relF l st || okQ.all fun q => kds.all fun k => decide (fwF l st (q.nx k).lw = match fwF l st q.lw with
    | .l x => fwF x (st.fold q.lw) [k]
    | r => r)) = true := by decide +kernel
theorem fw_run (l : Lt) (st : Sx) (hs : st.ok = true) (hr : relF l st = true) (w : List Kd) : fwF l st w = fwF l st (Q.run w).lw := by
  refine snoc_ind (P := fun w => fwF l st w = fwF l st (Q.run w).lw) rfl (fun w k ih => ?_) w
  have h := List.all_eq_true.mp (List.all_eq_true.mp fw_key st ((mem14 st).mpr hs)) l (memL l)
  rw [hr, Bool.not_true, Bool.false_or] at h
  have h := of_decide_eq_true (List.all_eq_true.mp (List.all_eq_true.mp h _ (mem_okQ (ok_run w))) k (memK k))
  rw [run_snoc, h, fw_app, ih, fold_runS st hs w]
  all_goals (cases fwF l st (Q.run w).lw <;> rfl)
theorem ent_run (st : Sx) (hs : st.ok = true) (w : List Kd) : entD st w = entD st (Q.run w).lw := by
  unfold entD neuF waiF
  rw [← fold_runS st hs w]
  have h1 : (st.t = .e ∨ st.t = .run) → fwF .N st w = fwF .N st (Q.run w).lw := fun h => fw_run .N st hs (by unfold relF; exact decide_eq_true h) w
  have h2 : (st.t = .run ∨ st.t = .sign) → fwF (if st.t = .sign then .S else .T) st w = fwF (if st.t = .sign then .S else .T) st (Q.run w).lw := fun h => by
    by_cases z : st.t = .sign
    · rw [if_pos z]
      exact fw_run .S st hs (by unfold relF; exact decide_eq_true z) w
    · rw [if_neg z]
      exact fw_run .T st hs (by unfold relF; exact decide_eq_true (h.resolve_right z)) w
  congr 1
  congr 1
  congr 1
  · by_cases z : st.t = .e ∨ st.t = .run
    · rw [if_pos z, if_pos z, h1 z]
    · rw [if_neg z, if_neg z]
  · congr 1
    by_cases z : st.t = .run ∨ st.t = .sign
    · rw [if_pos z, if_pos z, h2 z]
    · rw [if_neg z, if_neg z]
theorem len_run (w : List Kd) : (Q.run w).least.length ≤ w.length := by
  refine snoc_ind (P := fun w => (Q.run w).least.length ≤ w.length) (Nat.le_refl _) (fun w k ih => ?_) w
  have key : (okQ.all fun q => kds.all fun k => decide ((q.nx k).least.length ≤ q.least.length + 1)) = true := by decide +kernel
  have h := of_decide_eq_true (List.all_eq_true.mp (List.all_eq_true.mp key _ (mem_okQ (ok_run w))) k (memK k))
  rw [run_snoc, List.length_append]
  exact Nat.le_trans h (Nat.add_le_add_right ih 1)
theorem lenL (x : List Nat) : (lst x).length ≤ x.length := by
  have := len_run (KK x)
  rwa [List.length_map] at this
theorem lst_lst (x : List Nat) : lst (lst x) = lst x := by
  unfold lst
  rw [show KK (Q.run (KK x)).least = (Q.run (KK x)).lw from rfl, run_lw (ok_run _)]
theorem run_lst (x : List Nat) : Q.run (KK (lst x)) = Q.run (KK x) := by rw [KK_lst, run_lw (ok_run _)]
end F
end

section
set_option linter.all false
set_option autoImplicit false
set_option maxRecDepth 100000
set_option maxHeartbeats 4000000
/-! least texts: kinds differ in what they do -/
namespace F
def eff (w : List Kd) : List F.D := all14.map fun st => entD st w
def oneB (a b : Q) : Bool := eqB (leadD a.lw) (leadD b.lw) && eqBs (eff a.lw) (eff b.lw)
theorem one_key : (okQ.all fun a => okQ.all fun b => oneB a b == decide (a = b)) = true := by decide +kernel
theorem one_iff {a b : Q} (ha : a.ok = true) (hb : b.ok = true) : oneB a b = decide (a = b) := by
  have := List.all_eq_true.mp (List.all_eq_true.mp one_key a (mem_okQ ha)) b (mem_okQ hb)
  exact eq_of_beq this
end F
end

section
set_option linter.all false
set_option autoImplicit false
set_option maxRecDepth 100000
set_option maxHeartbeats 4000000
/-! least texts: one kind, shorter texts -/
namespace F
theorem oD_pl (o : Option Fr) : (oD o).pl = true ∧ (oD o).dp = 0 := by
  rcases o with _ | (_ | _ | _ | x)
  · exact ⟨rfl, rfl⟩
  · exact ⟨rfl, rfl⟩
  · exact ⟨rfl, rfl⟩
  · exact ⟨rfl, rfl⟩
  · cases x <;> exact ⟨rfl, rfl⟩
theorem ent_pl (st : Sx) (w : List Kd) : (entD st w).pl = true := by
  show ((st.fold w).d.pl && ((oD (neuF st w)).pl && ((oD (waiF st w)).pl && true))) = true
  rw [(oD_pl _).1, (oD_pl _).1]
  rfl
theorem ent_dp (st : Sx) (w : List Kd) : (entD st w).dp ≤ 2 := by
  show max (st.fold w).d.dp (max (oD (neuF st w)).dp (max (oD (waiF st w)).dp 0)) + 1 ≤ 2
  rw [(oD_pl _).2, (oD_pl _).2]
  exact Nat.le_refl _
theorem eff_eq (a b : List Kd) : eqD (.lst (eff a)) (.lst (eff b)) = some (.bl (eqBs (eff a) (eff b))) := by
  have hp : ∀ w, pls (eff w) = true := fun w => pls_all fun d hd => by
    obtain ⟨st, _, rfl⟩ := List.mem_map.mp hd
    exact ent_pl st w
  have hd : ∀ w, dps (eff w) ≤ 2 := fun w => dps_all fun d hd => by
    obtain ⟨st, _, rfl⟩ := List.mem_map.mp hd
    exact ent_dp st w
  have hc : cmpOk (.lst (eff a)) (.lst (eff b)) = true := by
    unfold cmpOk
    rw [show (F.D.lst (eff a)).pl = pls (eff a) from rfl, show (F.D.lst (eff b)).pl = pls (eff b) from rfl, hp, hp]
    rw [show decide ((F.D.lst (eff a)).dp ≤ 50) = true from decide_eq_true (by
      show dps (eff a) + 1 ≤ 50
      have := hd a
      omega)]
    rfl
  unfold eqD
  rw [hc]
  rfl
theorem lead_eq (a b : List Kd) : eqD (leadD a) (leadD b) = some (.bl (eqB (leadD a) (leadD b))) := by
  have h : ∀ w, (leadD w).pl = true ∧ (leadD w).dp = 0 := fun w => by
    unfold leadD
    cases leadO w <;> exact ⟨rfl, rfl⟩
  unfold eqD cmpOk
  rw [(h a).1, (h b).1, (h a).2]
  rfl
theorem leadD_run (w : List Kd) : leadD w = leadD (Q.run w).lw := by
  unfold leadD
  rw [← lead_run]
theorem eff_run (w : List Kd) : eff w = eff (Q.run w).lw := by
  unfold eff
  exact List.map_congr_left fun st hs => ent_run st ((mem14 st).mp hs) w
theorem z_one {n m : Nat} {x y : List Nat} (h : Al n x) (g : Al m y) (hn : n ≤ 400) (hm : m ≤ 400) : Z_is_one_kind [.sh (.str x), .sh (.str y)] = .rt (.sh (.bl (decide (Q.run (KK x) = Q.run (KK y))))) [.sh (.str x), .sh (.str y)] := by
  have z1 := z_plain h hn
  have z2 := z_plain g hm
  have z3 := z_words h (Nat.le_trans hn (by decide))
  have z4 := z_words g (Nat.le_trans hm (by decide))
  have z5 := z_lead_of (KK x)
  have z6 := z_lead_of (KK y)
  have z7 := z_effect_of (KK x)
  have z8 := z_effect_of (KK y)
  rw [show (all14.map fun st => entD st (KK x)) = eff (KK x) from rfl] at z7
  rw [show (all14.map fun st => entD st (KK y)) = eff (KK y) from rfl] at z8
  have e1 := lead_eq (KK x) (KK y)
  have e2 := eff_eq (KK x) (KK y)
  rw [← one_iff (ok_run _) (ok_run _)]
  have e3 : oneB (Q.run (KK x)) (Q.run (KK y)) = (eqB (leadD (KK x)) (leadD (KK y)) && eqBs (eff (KK x)) (eff (KK y))) := by
    unfold oneB
    rw [← leadD_run, ← leadD_run, ← eff_run, ← eff_run]
  rw [e3]
  clear e3
  generalize eqB (leadD (KK x)) (leadD (KK y)) = b1 at *
  generalize eqBs (eff (KK x)) (eff (KK y)) = b2 at *
  generalize eff (KK x) = E1 at *
  generalize eff (KK y) = E2 at *
  generalize leadD (KK x) = D1 at *
  generalize leadD (KK y) = D2 at *
  generalize wS (KK x) = W1 at *
  generalize wS (KK y) = W2 at *
  cases b1 <;> cases b2 <;> simp only [Z_is_one_kind, m_is_one_kind, runF, gdO, finR, endF, allO, sSeq, sSet, setR, sOf, leak, mNextS, andThen, mVar, mC, slot, peek, peeks, nrm, O.pk, O.frz, mIf, mTB, mTru, mAnd, mOr, mNot, mOp1, mOp2, mOl1, mOl2, mTup, mLst, mLks, mDct, mDvs, mBi, mBl, mRs, mSm0, mSm1, mSl, mSlL, mPt, mIt, mItZ, zipR, mCall, asArgs, asArg, back, ofRes, mergeO, ofO, ofOS, sIf, sRet, sRetN, sPass, sExp, sAug, sUnp, sPar, sAsg2, sSto, sBrk, sCnt, sFor, sDrop, sMatch, mtL, mOs, setAll, sPut, mItK, mMut0, mMut1, wipeE, unwipe, lcEnd, mLc, mBad, sBad, mNotV, mAndV, mOrV, Tg.put, putAll, List.map_cons, List.map_nil, List.replicate, List.cons_append, List.nil_append, List.getElem?_cons_zero, List.getElem?_cons_succ, Option.bind_some, List.set_cons_zero, List.set_cons_succ, List.take_succ_cons, List.take_zero, List.headD_cons, List.headD_nil, List.tail_cons, List.tail_nil, Option.map_some, Option.map_none, if_true, if_false, Bool.false_eq_true, ite_true, ite_false, Bool.not_true, Bool.not_false, Bool.true_and, Bool.false_and, List.contains, List.elem, List.append_nil, List.length_cons, List.length_nil, Nat.zero_add, Nat.reduceAdd, Nat.reduceLeDiff, lim, Nat.reduceBEq, beq_self_eq_true, Bool.and_self, z1, z2, z3, z4, z5, z6, z7, z8, e1, e2]
/-! texts of the seven signs -/
def sg7 : List Nat := [32, 35, 42, 43, 44, 48, 78]
def longer (ls : List (List Nat)) : List (List Nat) := ls.flatMap fun x => sg7.map fun s => x ++ [s]
def lay : Nat → List (List Nat)
  | 0 => [[]]
  | n + 1 => longer (lay n)
def lows : Nat → List (List Nat)
  | 0 => []
  | n + 1 => lows n ++ lay n
def lesser (t : List Nat) : List (List Nat) := lows t.length ++ (lay t.length).filter fun x => decide (x < t)
theorem lesser_key : (okQ.all fun q => (lesser (q.least.take 3)).all fun s => decide (Q.run (KK s) ≠ q)) = true := by decide +kernel
theorem lesser_ne {q : Q} (h : q.ok = true) {s : List Nat} (hs : s ∈ lesser (q.least.take 3)) : Q.run (KK s) ≠ q := of_decide_eq_true (List.all_eq_true.mp (List.all_eq_true.mp lesser_key q (mem_okQ h)) s hs)
theorem lay_al : ∀ n, ∀ x ∈ lay n, (∀ c ∈ x, c ∈ alpha) ∧ x.length = n
  | 0, x, h => by
    rw [List.mem_singleton.mp h]
    exact ⟨fun c h => (by cases h), rfl⟩
  | n + 1, x, h => by
    obtain ⟨y, hy, hx⟩ := List.mem_flatMap.mp h
    obtain ⟨s, hs, rfl⟩ := List.mem_map.mp hx
    obtain ⟨h1, h2⟩ := lay_al n y hy
    have sa : ∀ c ∈ sg7, c ∈ alpha := by decide
    refine ⟨fun c hc => ?_, by rw [List.length_append, h2]; rfl⟩
    rcases List.mem_append.mp hc with hc | hc
    · exact h1 c hc
    · rw [List.mem_singleton.mp hc]; exact sa s hs
theorem lows_al : ∀ n, ∀ x ∈ lows n, Al n x
  | 0, x, h => by cases h
  | n + 1, x, h => by
    rcases List.mem_append.mp h with h | h
    · exact (lows_al n x h).mono (Nat.le_succ n)
    · obtain ⟨h1, h2⟩ := lay_al n x h
      exact ⟨h1, by omega⟩
theorem lesser_al {t : List Nat} (ht : t.length ≤ 3) {x : List Nat} (h : x ∈ lesser t) : Al 3 x := by
  rcases List.mem_append.mp h with h | h
  · exact (lows_al _ x h).mono ht
  · obtain ⟨h1, h2⟩ := lay_al _ x (List.mem_filter.mp h).1
    exact ⟨h1, by omega⟩
theorem lay_len : (lay 0).length = 1 ∧ (lay 1).length = 7 ∧ (lay 2).length = 49 ∧ (lay 3).length = 343 := by decide +kernel
theorem longer_turn (x : List Nat) (hx : x.length ≤ 1000) (e0 e1 e2 : Option O) : lcL [4] (.nm 4) mYes (mOp2 addD (mVar 3) (mVar 4)) (sg7.map chD) [] [e0, e1, e2, some (.sh (.str x)), none] = .ok ((sg7.map fun s => x ++ [s]).map .str) [e0, e1, e2, some (.sh (.str x)), none] := by
  have := lc_map (enc := chD) (own := [4]) (t := .nm 4) (c := mYes) (v := mOp2 addD (mVar 3) (mVar 4)) (e := [e0, e1, e2, some (.sh (.str x)), none]) (f := fun s => F.D.str (x ++ [s])) (as := sg7) (acc := []) (fun s _ => by
    have a := add_str (x := x) (y := [s]) (Nat.le_trans (Nat.add_le_add hx (Nat.le_refl 1)) (by decide))
    simp only [lcOne, mYes, chD, runF, gdO, finR, endF, allO, sSeq, sSet, setR, sOf, leak, mNextS, andThen, mVar, mC, slot, peek, peeks, nrm, O.pk, O.frz, mIf, mTB, mTru, mAnd, mOr, mNot, mOp1, mOp2, mOl1, mOl2, mTup, mLst, mLks, mDct, mDvs, mBi, mBl, mRs, mSm0, mSm1, mSl, mSlL, mPt, mIt, mItZ, zipR, mCall, asArgs, asArg, back, ofRes, mergeO, ofO, ofOS, sIf, sRet, sRetN, sPass, sExp, sAug, sUnp, sPar, sAsg2, sSto, sBrk, sCnt, sFor, sDrop, sMatch, mtL, mOs, setAll, sPut, mItK, mMut0, mMut1, wipeE, unwipe, lcEnd, mLc, mBad, sBad, mNotV, mAndV, mOrV, Tg.put, putAll, List.map_cons, List.map_nil, List.replicate, List.cons_append, List.nil_append, List.getElem?_cons_zero, List.getElem?_cons_succ, Option.bind_some, List.set_cons_zero, List.set_cons_succ, List.take_succ_cons, List.take_zero, List.headD_cons, List.headD_nil, List.tail_cons, List.tail_nil, Option.map_some, Option.map_none, if_true, if_false, Bool.false_eq_true, ite_true, ite_false, Bool.not_true, Bool.not_false, Bool.true_and, Bool.false_and, List.contains, List.elem, List.append_nil, List.length_cons, List.length_nil, Nat.zero_add, Nat.reduceAdd, Nat.reduceLeDiff, lim, Nat.reduceBEq, beq_self_eq_true, Bool.and_self, a])
  rw [this, List.map_map]
  rfl
theorem longer_loop (e0 : Option O) : ∀ (ls acc : List (List Nat)), (∀ x ∈ ls, x.length ≤ 1000) → acc.length + 7 * ls.length ≤ 16777216 →
    forL (.nm 3) b__law_longer_0 (ls.map .str) [e0, some (.sh (.str sg7)), some (.fl (acc.map .str)), none, none] = .nx [e0, some (.sh (.str sg7)), some (.fl ((acc ++ longer ls).map .str)), none, none]
  | [], acc, _, _ => by simp [longer, forL]
  | x :: ls, acc, h, hl => by
    have t := longer_turn x (h x (List.mem_cons_self ..)) e0 (some (.sh (.str sg7))) (some (.fl (acc.map .str)))
    have i := itS_x sg7
    have l7 : ((sg7.map chD).length ≤ 16777216) = True := eq_true (by decide)
    have ex : extF (acc.map .str) (.lst ((sg7.map fun s => x ++ [s]).map .str)) = some (.non, (acc ++ sg7.map fun s => x ++ [s]).map .str) := by
      show (if (acc.map F.D.str).length + ((sg7.map fun s => x ++ [s]).map F.D.str).length ≤ F.lim then some (F.D.non, acc.map F.D.str ++ (sg7.map fun s => x ++ [s]).map F.D.str) else none) = _
      rw [if_pos (by rw [List.length_map, List.length_map, List.length_map]; rw [List.length_cons] at hl; show acc.length + 7 ≤ 16777216; omega), List.map_append]
    have ih := longer_loop e0 ls (acc ++ sg7.map fun s => x ++ [s]) (fun y hy => h y (List.mem_cons_of_mem _ hy)) (by
      rw [List.length_append, List.length_map]
      rw [List.length_cons] at hl
      show acc.length + 7 + 7 * ls.length ≤ _
      omega)
    have e : acc ++ longer (x :: ls) = (acc ++ sg7.map fun s => x ++ [s]) ++ longer ls := by unfold longer; rw [List.flatMap_cons, List.append_assoc]
    rw [e, ← ih, List.map_cons]
    clear ih e
    refine for_cons rfl ?_
    generalize (sg7.map fun s => x ++ [s]).map F.D.str = M at *
    generalize (acc ++ sg7.map fun s => x ++ [s]).map F.D.str = N at *
    generalize acc.map F.D.str = A at *
    generalize sg7.map chD = C at *
    generalize sg7 = S at *
    simp only [b__law_longer_0, runF, gdO, finR, endF, allO, sSeq, sSet, setR, sOf, leak, mNextS, andThen, mVar, mC, slot, peek, peeks, nrm, O.pk, O.frz, mIf, mTB, mTru, mAnd, mOr, mNot, mOp1, mOp2, mOl1, mOl2, mTup, mLst, mLks, mDct, mDvs, mBi, mBl, mRs, mSm0, mSm1, mSl, mSlL, mPt, mIt, mItZ, zipR, mCall, asArgs, asArg, back, ofRes, mergeO, ofO, ofOS, sIf, sRet, sRetN, sPass, sExp, sAug, sUnp, sPar, sAsg2, sSto, sBrk, sCnt, sFor, sDrop, sMatch, mtL, mOs, setAll, sPut, mItK, mMut0, mMut1, wipeE, unwipe, lcEnd, mLc, mBad, sBad, mNotV, mAndV, mOrV, Tg.put, putAll, List.map_cons, List.map_nil, List.replicate, List.cons_append, List.nil_append, List.getElem?_cons_zero, List.getElem?_cons_succ, Option.bind_some, List.set_cons_zero, List.set_cons_succ, List.take_succ_cons, List.take_zero, List.headD_cons, List.headD_nil, List.tail_cons, List.tail_nil, Option.map_some, Option.map_none, if_true, if_false, Bool.false_eq_true, ite_true, ite_false, Bool.not_true, Bool.not_false, Bool.true_and, Bool.false_and, List.contains, List.elem, List.append_nil, List.length_cons, List.length_nil, Nat.zero_add, Nat.reduceAdd, Nat.reduceLeDiff, lim, Nat.reduceBEq, beq_self_eq_true, Bool.and_self, i, l7, t, ex]
theorem z_longer (ls : List (List Nat)) (h : ∀ x ∈ ls, x.length ≤ 1000) (hl : 7 * ls.length ≤ 16777216) : Z__law_longer [.sh (.lst (ls.map .str)), .sh (.str sg7)] = .rt (.fl ((longer ls).map .str)) [.sh (.lst (ls.map .str)), .sh (.str sg7)] := by
  have lp := longer_loop (some (.sh (.lst (ls.map .str)))) ls [] h (by simpa using hl)
  rw [List.nil_append] at lp
  have i : itL (.lst (ls.map F.D.str)) = some (ls.map .str) := rfl
  rw [show ([] : List (List Nat)).map F.D.str = [] from rfl] at lp
  generalize (longer ls).map F.D.str = N at *
  generalize ls.map F.D.str = A at *
  generalize sg7 = S at *
  simp only [Z__law_longer, m__law_longer, runF, gdO, finR, endF, allO, sSeq, sSet, setR, sOf, leak, mNextS, andThen, mVar, mC, slot, peek, peeks, nrm, O.pk, O.frz, mIf, mTB, mTru, mAnd, mOr, mNot, mOp1, mOp2, mOl1, mOl2, mTup, mLst, mLks, mDct, mDvs, mBi, mBl, mRs, mSm0, mSm1, mSl, mSlL, mPt, mIt, mItZ, zipR, mCall, asArgs, asArg, back, ofRes, mergeO, ofO, ofOS, sIf, sRet, sRetN, sPass, sExp, sAug, sUnp, sPar, sAsg2, sSto, sBrk, sCnt, sFor, sDrop, sMatch, mtL, mOs, setAll, sPut, mItK, mMut0, mMut1, wipeE, unwipe, lcEnd, mLc, mBad, sBad, mNotV, mAndV, mOrV, Tg.put, putAll, List.map_cons, List.map_nil, List.replicate, List.cons_append, List.nil_append, List.getElem?_cons_zero, List.getElem?_cons_succ, Option.bind_some, List.set_cons_zero, List.set_cons_succ, List.take_succ_cons, List.take_zero, List.headD_cons, List.headD_nil, List.tail_cons, List.tail_nil, Option.map_some, Option.map_none, if_true, if_false, Bool.false_eq_true, ite_true, ite_false, Bool.not_true, Bool.not_false, Bool.true_and, Bool.false_and, List.contains, List.elem, List.append_nil, List.length_cons, List.length_nil, Nat.zero_add, Nat.reduceAdd, Nat.reduceLeDiff, lim, Nat.reduceBEq, beq_self_eq_true, Bool.and_self, i, lp]
theorem lows_len : (lows 0).length = 0 ∧ (lows 1).length = 1 ∧ (lows 2).length = 8 ∧ (lows 3).length = 57 := by decide +kernel
theorem lay_hd (k : Nat) (hk : k ≤ 3) : ixD (.lst ((lay k).map .str)) (.int 0) = some (.str (List.replicate k 32)) := by
  rcases (by omega : k = 0 ∨ k = 1 ∨ k = 2 ∨ k = 3) with rfl | rfl | rfl | rfl <;> rfl
theorem lay_le (k : Nat) (hk : k ≤ 3) : (lay k).length ≤ 343 ∧ (lows k).length ≤ 57 := by
  obtain ⟨a, b, c, d⟩ := lay_len
  obtain ⟨a', b', c', d'⟩ := lows_len
  rcases (by omega : k = 0 ∨ k = 1 ∨ k = 2 ∨ k = 3) with rfl | rfl | rfl | rfl <;> omega
theorem cat_ok (x y : List F.D) (h : x.length + y.length ≤ 16777216) : catL (.lst x) (.lst y) = some (x ++ y) := if_pos h
theorem lesser_turn (t : List Nat) (k : Nat) (hk : k ≤ 3) : b__law_lesser_0 [some (.sh (.str t)), some (.fl ((lows k).map .str)), some (.fl ((lay k).map .str)), none] = .nx [some (.sh (.str t)), some (.fl ((lows (k + 1)).map .str)), some (.fl ((lay (k + 1)).map .str)), none] := by
  obtain ⟨l1, l2⟩ := lay_le k hk
  have z := z_longer (lay k) (fun x hx => by have := (lay_al k x hx).2; omega) (by omega)
  rw [show longer (lay k) = lay (k + 1) from rfl, show sg7 = [32, 35, 42, 43, 44, 48, 78] from rfl] at z
  have c := cat_ok ((lows k).map .str) ((lay k).map .str) (by rw [List.length_map, List.length_map]; omega)
  rw [← List.map_append, show lows k ++ lay k = lows (k + 1) from rfl] at c
  generalize (lows (k + 1)).map F.D.str = A at *
  generalize (lay (k + 1)).map F.D.str = B at *
  generalize (lows k).map F.D.str = A1 at *
  generalize (lay k).map F.D.str = B1 at *
  simp only [b__law_lesser_0, runF, gdO, finR, endF, allO, sSeq, sSet, setR, sOf, leak, mNextS, andThen, mVar, mC, slot, peek, peeks, nrm, O.pk, O.frz, mIf, mTB, mTru, mAnd, mOr, mNot, mOp1, mOp2, mOl1, mOl2, mTup, mLst, mLks, mDct, mDvs, mBi, mBl, mRs, mSm0, mSm1, mSl, mSlL, mPt, mIt, mItZ, zipR, mCall, asArgs, asArg, back, ofRes, mergeO, ofO, ofOS, sIf, sRet, sRetN, sPass, sExp, sAug, sUnp, sPar, sAsg2, sSto, sBrk, sCnt, sFor, sDrop, sMatch, mtL, mOs, setAll, sPut, mItK, mMut0, mMut1, wipeE, unwipe, lcEnd, mLc, mBad, sBad, mNotV, mAndV, mOrV, Tg.put, putAll, List.map_cons, List.map_nil, List.replicate, List.cons_append, List.nil_append, List.getElem?_cons_zero, List.getElem?_cons_succ, Option.bind_some, List.set_cons_zero, List.set_cons_succ, List.take_succ_cons, List.take_zero, List.headD_cons, List.headD_nil, List.tail_cons, List.tail_nil, Option.map_some, Option.map_none, if_true, if_false, Bool.false_eq_true, ite_true, ite_false, Bool.not_true, Bool.not_false, Bool.true_and, Bool.false_and, List.contains, List.elem, List.append_nil, List.length_cons, List.length_nil, Nat.zero_add, Nat.reduceAdd, Nat.reduceLeDiff, lim, Nat.reduceBEq, beq_self_eq_true, Bool.and_self, c, z]
theorem lesser_wh (t : List Nat) (ht : t.length ≤ 3) : ∀ (j k f : Nat), k + j = t.length → j < f → whL (mTB (mOp2 ltD (mBi lenD [(mOp2 ixD (mVar 2) (mC (.int 0)))]) (mBi lenD [(mVar 0)]))) b__law_lesser_0 f [some (.sh (.str t)), some (.fl ((lows k).map .str)), some (.fl ((lay k).map .str)), none] =
    .nx [some (.sh (.str t)), some (.fl ((lows t.length).map .str)), some (.fl ((lay t.length).map .str)), none]
  | j, k, 0, _, h => by omega
  | j, k, f + 1, e, h => by
    have x0 := lay_hd k (by omega)
    have lr := len_str (List.replicate k 32)
    rw [List.length_replicate] at lr
    have lt := lt_int (k : Nat) (t.length : Nat)
    have ll := len_str t
    have hc : ∀ b, decide (((k : Nat) : Int) < (t.length : Nat)) = b → mTB (mOp2 ltD (mBi lenD [(mOp2 ixD (mVar 2) (mC (.int 0)))]) (mBi lenD [(mVar 0)])) [some (.sh (.str t)), some (.fl ((lows k).map .str)), some (.fl ((lay k).map .str)), none] = .ok b [some (.sh (.str t)), some (.fl ((lows k).map .str)), some (.fl ((lay k).map .str)), none] := fun b hb => by
      rw [hb] at lt
      generalize (lows k).map F.D.str = A1 at *
      generalize (lay k).map F.D.str = B1 at *
      generalize (t.length : Int) = T at *
      generalize (k : Int) = Kk at *
      generalize List.replicate k 32 = Rr at *
      simp only [runF, gdO, finR, endF, allO, sSeq, sSet, setR, sOf, leak, mNextS, andThen, mVar, mC, slot, peek, peeks, nrm, O.pk, O.frz, mIf, mTB, mTru, mAnd, mOr, mNot, mOp1, mOp2, mOl1, mOl2, mTup, mLst, mLks, mDct, mDvs, mBi, mBl, mRs, mSm0, mSm1, mSl, mSlL, mPt, mIt, mItZ, zipR, mCall, asArgs, asArg, back, ofRes, mergeO, ofO, ofOS, sIf, sRet, sRetN, sPass, sExp, sAug, sUnp, sPar, sAsg2, sSto, sBrk, sCnt, sFor, sDrop, sMatch, mtL, mOs, setAll, sPut, mItK, mMut0, mMut1, wipeE, unwipe, lcEnd, mLc, mBad, sBad, mNotV, mAndV, mOrV, Tg.put, putAll, List.map_cons, List.map_nil, List.replicate, List.cons_append, List.nil_append, List.getElem?_cons_zero, List.getElem?_cons_succ, Option.bind_some, List.set_cons_zero, List.set_cons_succ, List.take_succ_cons, List.take_zero, List.headD_cons, List.headD_nil, List.tail_cons, List.tail_nil, Option.map_some, Option.map_none, if_true, if_false, Bool.false_eq_true, ite_true, ite_false, Bool.not_true, Bool.not_false, Bool.true_and, Bool.false_and, List.contains, List.elem, List.append_nil, List.length_cons, List.length_nil, Nat.zero_add, Nat.reduceAdd, Nat.reduceLeDiff, lim, Nat.reduceBEq, beq_self_eq_true, Bool.and_self, x0, lr, ll, lt]
    cases j with
    | zero =>
      have ek : k = t.length := by omega
      have := hc false (decide_eq_false (by omega))
      unfold whL
      rw [this]
      rw [ek]
    | succ j =>
      have := hc true (decide_eq_true (by omega))
      unfold whL
      rw [this]
      have tn := lesser_turn t k (by omega)
      show (match b__law_lesser_0 _ with
        | .nx e2 => whL _ b__law_lesser_0 f e2
        | .ct e2 => whL _ b__law_lesser_0 f e2
        | .bk e2 => .nx e2
        | r => r) = _
      rw [tn]
      exact lesser_wh t ht j (k + 1) f (by omega) (by omega)
theorem lt_strs (x y : List Nat) : ltD (.str x) (.str y) = some (.bl (decide (x < y))) := rfl
theorem lesser_lc (t : List Nat) (e1 e2 : Option O) (ls : List (List Nat)) : lcL [3] (.nm 3) (mTB (mOp2 ltD (mVar 3) (mVar 0))) (mVar 3) (ls.map .str) [] [some (.sh (.str t)), e1, e2, none] = .ok ((ls.filter fun x => decide (x < t)).map .str) [some (.sh (.str t)), e1, e2, none] := by
  have := lc_fm (enc := F.D.str) (own := [3]) (t := .nm 3) (c := mTB (mOp2 ltD (mVar 3) (mVar 0))) (v := mVar 3) (e := [some (.sh (.str t)), e1, e2, none]) (f := fun x => if decide (x < t) = true then some (F.D.str x) else none) (as := ls) (acc := []) (fun x _ => by
    have q := lt_strs x t
    generalize decide (x < t) = b at *
    cases b <;> simp only [lcOne, runF, gdO, finR, endF, allO, sSeq, sSet, setR, sOf, leak, mNextS, andThen, mVar, mC, slot, peek, peeks, nrm, O.pk, O.frz, mIf, mTB, mTru, mAnd, mOr, mNot, mOp1, mOp2, mOl1, mOl2, mTup, mLst, mLks, mDct, mDvs, mBi, mBl, mRs, mSm0, mSm1, mSl, mSlL, mPt, mIt, mItZ, zipR, mCall, asArgs, asArg, back, ofRes, mergeO, ofO, ofOS, sIf, sRet, sRetN, sPass, sExp, sAug, sUnp, sPar, sAsg2, sSto, sBrk, sCnt, sFor, sDrop, sMatch, mtL, mOs, setAll, sPut, mItK, mMut0, mMut1, wipeE, unwipe, lcEnd, mLc, mBad, sBad, mNotV, mAndV, mOrV, Tg.put, putAll, List.map_cons, List.map_nil, List.replicate, List.cons_append, List.nil_append, List.getElem?_cons_zero, List.getElem?_cons_succ, Option.bind_some, List.set_cons_zero, List.set_cons_succ, List.take_succ_cons, List.take_zero, List.headD_cons, List.headD_nil, List.tail_cons, List.tail_nil, Option.map_some, Option.map_none, if_true, if_false, Bool.false_eq_true, ite_true, ite_false, Bool.not_true, Bool.not_false, Bool.true_and, Bool.false_and, List.contains, List.elem, List.append_nil, List.length_cons, List.length_nil, Nat.zero_add, Nat.reduceAdd, Nat.reduceLeDiff, lim, Nat.reduceBEq, beq_self_eq_true, Bool.and_self, q])
  rw [this, List.nil_append]
  clear this
  congr 1
  induction ls with
  | nil => rfl
  | cons a l ih =>
    rw [List.filterMap_cons, List.filter_cons]
    by_cases z : decide (a < t) = true
    · rw [if_pos z, if_pos z, List.map_cons, ← ih]
    · rw [if_neg z, if_neg z, ← ih]
theorem z_lesser (t : List Nat) (ht : t.length ≤ 3) : Z__law_lesser [.sh (.str t)] = .rt (.fl ((lesser t).map .str)) [.sh (.str t)] := by
  have w := lesser_wh t ht t.length 0 4 (by omega) (by omega)
  rw [show (lows 0).map F.D.str = [] from rfl, show (lay 0).map F.D.str = [.str []] from rfl] at w
  obtain ⟨l1, l2⟩ := lay_le t.length ht
  have i : itL (.lst ((lay t.length).map F.D.str)) = some ((lay t.length).map .str) := rfl
  have ll : (((lay t.length).map F.D.str).length ≤ 16777216) = True := eq_true (by rw [List.length_map]; omega)
  have lc := fun e1 e2 => lesser_lc t e1 e2 (lay t.length)
  have hf := List.length_filter_le (fun x => decide (x < t)) (lay t.length)
  have c := cat_ok ((lows t.length).map .str) (((lay t.length).filter fun x => decide (x < t)).map .str) (by rw [List.length_map, List.length_map]; omega)
  rw [← List.map_append, show lows t.length ++ ((lay t.length).filter fun x => decide (x < t)) = lesser t from rfl] at c
  generalize (lesser t).map F.D.str = R at *
  generalize ((lay t.length).filter fun x => decide (x < t)).map F.D.str = Fl at *
  generalize (lay t.length).map F.D.str = L at *
  generalize (lows t.length).map F.D.str = A at *
  generalize hW : (whL (mTB (mOp2 ltD (mBi lenD [(mOp2 ixD (mVar 2) (mC (.int 0)))]) (mBi lenD [(mVar 0)]))) b__law_lesser_0 4) = W at *
  simp only [Z__law_lesser, m__law_lesser, sWhile, hW, runF, gdO, finR, endF, allO, sSeq, sSet, setR, sOf, leak, mNextS, andThen, mVar, mC, slot, peek, peeks, nrm, O.pk, O.frz, mIf, mTB, mTru, mAnd, mOr, mNot, mOp1, mOp2, mOl1, mOl2, mTup, mLst, mLks, mDct, mDvs, mBi, mBl, mRs, mSm0, mSm1, mSl, mSlL, mPt, mIt, mItZ, zipR, mCall, asArgs, asArg, back, ofRes, mergeO, ofO, ofOS, sIf, sRet, sRetN, sPass, sExp, sAug, sUnp, sPar, sAsg2, sSto, sBrk, sCnt, sFor, sDrop, sMatch, mtL, mOs, setAll, sPut, mItK, mMut0, mMut1, wipeE, unwipe, lcEnd, mLc, mBad, sBad, mNotV, mAndV, mOrV, Tg.put, putAll, List.map_cons, List.map_nil, List.replicate, List.cons_append, List.nil_append, List.getElem?_cons_zero, List.getElem?_cons_succ, Option.bind_some, List.set_cons_zero, List.set_cons_succ, List.take_succ_cons, List.take_zero, List.headD_cons, List.headD_nil, List.tail_cons, List.tail_nil, Option.map_some, Option.map_none, if_true, if_false, Bool.false_eq_true, ite_true, ite_false, Bool.not_true, Bool.not_false, Bool.true_and, Bool.false_and, List.contains, List.elem, List.append_nil, List.length_cons, List.length_nil, Nat.zero_add, Nat.reduceAdd, Nat.reduceLeDiff, lim, Nat.reduceBEq, beq_self_eq_true, Bool.and_self, w, i, ll, lc, c]
end F
end

section
set_option linter.all false
set_option autoImplicit false
set_option maxRecDepth 100000
set_option maxHeartbeats 4000000
/-! least texts of kinds: the law -/
namespace F
theorem lst_left (x y : List Nat) : lst (lst x ++ y) = lst (x ++ y) := by unfold lst; rw [KK_app, show KK (Q.run (KK x)).least = (Q.run (KK x)).lw from rfl, run_left, ← KK_app]
theorem lst_right (x y : List Nat) : lst (x ++ lst y) = lst (x ++ y) := by unfold lst; rw [KK_app, show KK (Q.run (KK y)).least = (Q.run (KK y)).lw from rfl, run_right, ← KK_app]
theorem cut3 (y : List Nat) : cut y none (some 3) = y.take 3 := by
  by_cases h : 3 ≤ y.length
  · exact cut_to y 3 h
  · unfold cut
    have h1 : cutI y.length y.length (some 3) = y.length := by
      show (if (3 : Int) < 0 then ((3 : Int) + (y.length : Int)).toNat else min (3 : Int).toNat y.length) = _
      rw [if_neg (by decide)]
      exact Nat.min_eq_right (by show y.length ≤ 3; omega)
    rw [h1, show cutI y.length 0 none = 0 from rfl, Nat.sub_zero, List.drop_zero, List.take_of_length_le (Nat.le_refl _), List.take_of_length_le (by omega)]
theorem bls_rep : ∀ n, blsOf (List.replicate n (F.D.bl false)) = some (List.replicate n false)
  | 0 => rfl
  | n + 1 => by
    rw [List.replicate_succ]
    show (blsOf (List.replicate n (F.D.bl false))).map (false :: ·) = _
    rw [bls_rep n]
    rfl
theorem any_rep (n : Nat) : anyD [.lst (List.replicate n (F.D.bl false))] = some (.bl false) := by
  show (blsOf _).map _ = _
  rw [bls_rep]
  show some (F.D.bl ((List.replicate n false).any id)) = _
  congr 2
  rw [List.any_eq_false]
  intro x hx
  rw [(List.mem_replicate.mp hx).2]
  decide
theorem map_rep {α : Type} : ∀ l : List α, (l.map fun _ => F.D.bl false) = List.replicate l.length (F.D.bl false)
  | [] => rfl
  | a :: l => by rw [List.map_cons, map_rep l]; rfl
/-- the drawn texts beside the least one -/
theorem any_loop (S : List (List Nat)) (y : List Nat) (hy : Al 6 y) (hl : S.length < 1000) (hS : ∀ s ∈ S, Al 3 s ∧ Q.run (KK s) ≠ Q.run (KK y)) (e0 e1 e3 e4 e5 e6 e7 e8 : Option O) : ∀ (items acc : List F.D) (a m : Int), (S = [] → items = []) → ∃ a' m',
    lcL [12] (.nm 12) mYes (mCall Z_is_one_kind [] [] [(mOp2 ixD (mVar 10) (mCall Z__law_take [.bo, .lk] [] [(mVar 2), (mBi lenD [(mVar 10)])])), (mVar 9)]) items acc [e0, e1, some (bg a m), e3, e4, e5, e6, e7, e8, some (.sh (.str y)), some (.fl (S.map .str)), none, none, none] =
      .ok (acc ++ List.replicate items.length (.bl false)) [e0, e1, some (bg a' m'), e3, e4, e5, e6, e7, e8, some (.sh (.str y)), some (.fl (S.map .str)), none, none, none]
  | [], acc, a, m, _ => ⟨a, m, by simp [lcL]⟩
  | d :: items, acc, a, m, h => by
    have h0 : S ≠ [] := fun z => by cases h z
    have hp : 0 < S.length := List.length_pos_iff.mpr h0
    obtain ⟨a1, m1, r, hz, r0, r1⟩ := z_take a m S.length (by omega) (by omega)
    obtain ⟨d', hd', hg⟩ := getI_nat (l := S.map F.D.str) r0 (by rw [List.length_map]; exact r1)
    obtain ⟨s, hs, rfl⟩ := List.mem_map.mp hd'
    have hg : ixD (.lst (S.map F.D.str)) (.int r) = some (.str s) := hg
    obtain ⟨h1, h2⟩ := hS s hs
    have z1 := z_one h1 hy (by decide) (by decide)
    rw [decide_eq_false h2] at z1
    have ll := len_lst (S.map F.D.str)
    rw [List.length_map] at ll
    obtain ⟨a2, m2, ih⟩ := any_loop S y hy hl hS e0 e1 e3 e4 e5 e6 e7 e8 items (acc ++ [.bl false]) a1 m1 (fun z => absurd z h0)
    refine ⟨a2, m2, ?_⟩
    have e3' : lcOne [12] (.nm 12) mYes (mCall Z_is_one_kind [] [] [(mOp2 ixD (mVar 10) (mCall Z__law_take [.bo, .lk] [] [(mVar 2), (mBi lenD [(mVar 10)])])), (mVar 9)]) d [e0, e1, some (bg a m), e3, e4, e5, e6, e7, e8, some (.sh (.str y)), some (.fl (S.map .str)), none, none, none] =
        some (some (.bl false), [e0, e1, some (bg a1 m1), e3, e4, e5, e6, e7, e8, some (.sh (.str y)), some (.fl (S.map .str)), none, none, none]) := by
      clear ih
      generalize S.map F.D.str = Sd at *
      generalize (S.length : Int) = L at *
      simp only [lcOne, mYes, runF, gdO, finR, endF, allO, sSeq, sSet, setR, sOf, leak, mNextS, andThen, mVar, mC, slot, peek, peeks, nrm, O.pk, O.frz, mIf, mTB, mTru, mAnd, mOr, mNot, mOp1, mOp2, mOl1, mOl2, mTup, mLst, mLks, mDct, mDvs, mBi, mBl, mRs, mSm0, mSm1, mSl, mSlL, mPt, mIt, mItZ, zipR, mCall, asArgs, asArg, back, ofRes, mergeO, ofO, ofOS, sIf, sRet, sRetN, sPass, sExp, sAug, sUnp, sPar, sAsg2, sSto, sBrk, sCnt, sFor, sDrop, sMatch, mtL, mOs, setAll, sPut, mItK, mMut0, mMut1, wipeE, unwipe, lcEnd, mLc, mBad, sBad, mNotV, mAndV, mOrV, Tg.put, putAll, List.map_cons, List.map_nil, List.replicate, List.cons_append, List.nil_append, List.getElem?_cons_zero, List.getElem?_cons_succ, Option.bind_some, List.set_cons_zero, List.set_cons_succ, List.take_succ_cons, List.take_zero, List.headD_cons, List.headD_nil, List.tail_cons, List.tail_nil, Option.map_some, Option.map_none, if_true, if_false, Bool.false_eq_true, ite_true, ite_false, Bool.not_true, Bool.not_false, Bool.true_and, Bool.false_and, List.contains, List.elem, List.append_nil, List.length_cons, List.length_nil, Nat.zero_add, Nat.reduceAdd, Nat.reduceLeDiff, lim, Nat.reduceBEq, beq_self_eq_true, Bool.and_self, ll, hz, hg, z1]
    rw [lc_eq e3', show acc ++ List.replicate (d :: items).length (F.D.bl false) = acc ++ (some (F.D.bl false)).toList ++ List.replicate items.length (F.D.bl false) by rw [List.length_cons, List.replicate_succ]; simp]
    exact ih
theorem all_loop (S : List (List Nat)) (y : List Nat) (hy : Al 6 y) (hS : ∀ s ∈ S, Al 3 s ∧ Q.run (KK s) ≠ Q.run (KK y)) (e0 e1 e2 e3 e4 e5 e6 e7 e8 e10 : Option O) :
    lcL [13] (.nm 13) mYes (mCall Z_is_one_kind [] [] [(mVar 13), (mVar 9)]) (S.map .str) [] [e0, e1, e2, e3, e4, e5, e6, e7, e8, some (.sh (.str y)), e10, none, none, none] = .ok (List.replicate S.length (.bl false)) [e0, e1, e2, e3, e4, e5, e6, e7, e8, some (.sh (.str y)), e10, none, none, none] := by
  have := lc_map (enc := F.D.str) (own := [13]) (t := .nm 13) (c := mYes) (v := mCall Z_is_one_kind [] [] [(mVar 13), (mVar 9)]) (e := [e0, e1, e2, e3, e4, e5, e6, e7, e8, some (.sh (.str y)), e10, none, none, none]) (f := fun _ => F.D.bl false) (as := S) (acc := []) (fun s hs => by
    obtain ⟨h1, h2⟩ := hS s hs
    have z1 := z_one h1 hy (by decide) (by decide)
    rw [decide_eq_false h2] at z1
    simp only [lcOne, mYes, runF, gdO, finR, endF, allO, sSeq, sSet, setR, sOf, leak, mNextS, andThen, mVar, mC, slot, peek, peeks, nrm, O.pk, O.frz, mIf, mTB, mTru, mAnd, mOr, mNot, mOp1, mOp2, mOl1, mOl2, mTup, mLst, mLks, mDct, mDvs, mBi, mBl, mRs, mSm0, mSm1, mSl, mSlL, mPt, mIt, mItZ, zipR, mCall, asArgs, asArg, back, ofRes, mergeO, ofO, ofOS, sIf, sRet, sRetN, sPass, sExp, sAug, sUnp, sPar, sAsg2, sSto, sBrk, sCnt, sFor, sDrop, sMatch, mtL, mOs, setAll, sPut, mItK, mMut0, mMut1, wipeE, unwipe, lcEnd, mLc, mBad, sBad, mNotV, mAndV, mOrV, Tg.put, putAll, List.map_cons, List.map_nil, List.replicate, List.cons_append, List.nil_append, List.getElem?_cons_zero, List.getElem?_cons_succ, Option.bind_some, List.set_cons_zero, List.set_cons_succ, List.take_succ_cons, List.take_zero, List.headD_cons, List.headD_nil, List.tail_cons, List.tail_nil, Option.map_some, Option.map_none, if_true, if_false, Bool.false_eq_true, ite_true, ite_false, Bool.not_true, Bool.not_false, Bool.true_and, Bool.false_and, List.contains, List.elem, List.append_nil, List.length_cons, List.length_nil, Nat.zero_add, Nat.reduceAdd, Nat.reduceLeDiff, lim, Nat.reduceBEq, beq_self_eq_true, Bool.and_self, z1])
  rw [this, map_rep, List.nil_append]
theorem lesser_len (t : List Nat) (ht : t.length ≤ 3) : (lesser t).length ≤ 400 := by
  obtain ⟨l1, l2⟩ := lay_le t.length ht
  have := List.length_filter_le (fun x => decide (x < t)) (lay t.length)
  unfold lesser
  rw [List.length_append]
  omega
theorem turn0 {n : Nat} {x : List Nat} (hx : Al n x) (a m : Int) (e0 e1 e3 e4 e5 e6 e7 : Option O) : ∃ a' m',
    b_law_0 [e0, e1, some (bg a m), e3, e4, e5, e6, e7, some (.sh (.str x)), some (.sh (.str (lst x))), none, none, none, none] = .nx [e0, e1, some (bg a' m'), e3, e4, e5, e6, e7, none, none, none, none, none, none] := by
  have hy := lst_al x
  have hle := lenL x
  have ht : ((lst x).take 3).length ≤ 3 := by rw [List.length_take]; omega
  have hS : ∀ s ∈ lesser ((lst x).take 3), Al 3 s ∧ Q.run (KK s) ≠ Q.run (KK (lst x)) := fun s hs => ⟨lesser_al ht hs, by rw [run_lst]; exact lesser_ne (ok_run _) hs⟩
  have zl := z_lesser ((lst x).take 3) ht
  have sl : slS (.str (lst x)) none (some 3) = some (.str ((lst x).take 3)) := by rw [← cut3]; rfl
  have hn := lesser_len ((lst x).take 3) ht
  generalize lesser ((lst x).take 3) = S at *
  have ll := len_lst (S.map F.D.str)
  rw [List.length_map] at ll
  have l1 := len_str (lst x)
  have l2 := len_str x
  have g1 := gt_int ((lst x).length : Nat) (x.length : Nat)
  rw [decide_eq_false (by omega : ¬ ((x.length : Nat) : Int) < ((lst x).length : Nat))] at g1
  have mi := min_int 60 (S.length : Nat)
  have it : itR1 (.int (if ((S.length : Nat) : Int) < 60 then ((S.length : Nat) : Int) else 60)) = some (rngF 0 (if ((S.length : Nat) : Int) < 60 then ((S.length : Nat) : Int) else 60).toNat) := if_pos ⟨by split <;> omega, by split <;> omega⟩
  have ri : ((rngF 0 (if ((S.length : Nat) : Int) < 60 then ((S.length : Nat) : Int) else 60).toNat).length ≤ 16777216) = True := eq_true (by rw [rngF_len]; split <;> omega)
  obtain ⟨a', m', lp⟩ := any_loop S (lst x) hy (by omega) hS e0 e1 e3 e4 e5 e6 e7 (some (.sh (.str x))) (rngF 0 (if ((S.length : Nat) : Int) < 60 then ((S.length : Nat) : Int) else 60).toNat) [] a m (fun z => by subst z; rfl)
  rw [List.nil_append] at lp
  have an := any_rep (rngF 0 (if ((S.length : Nat) : Int) < 60 then ((S.length : Nat) : Int) else 60).toNat).length
  have al := all_loop S (lst x) hy hS e0 e1 (some (bg a' m')) e3 e4 e5 e6 e7 (some (.sh (.str x))) (some (.sh (.lst (S.map .str))))
  have i2 : itL (.lst (S.map F.D.str)) = some (S.map .str) := rfl
  have il : ((S.map F.D.str).length ≤ 16777216) = True := eq_true (by rw [List.length_map]; omega)
  have an2 := any_rep S.length
  have lt3 := lt_int ((lst x).length : Nat) 3
  refine ⟨a', m', ?_⟩
  clear hS hle ht hy hn hx
  generalize (rngF 0 (if ((S.length : Nat) : Int) < 60 then ((S.length : Nat) : Int) else 60).toNat) = R at *
  generalize (if ((S.length : Nat) : Int) < 60 then ((S.length : Nat) : Int) else 60) = N at *
  generalize List.replicate R.length (F.D.bl false) = B1 at *
  generalize List.replicate S.length (F.D.bl false) = B2 at *
  generalize decide (((lst x).length : Int) < 3) = b at *
  generalize (lst x).take 3 = T3 at *
  generalize ((lst x).length : Int) = L1 at *
  generalize (x.length : Int) = L2 at *
  generalize (S.length : Int) = L3 at *
  generalize lst x = Y at *
  generalize S.map F.D.str = Sd at *
  cases b <;> simp only [b_law_0, runF, gdO, finR, endF, allO, sSeq, sSet, setR, sOf, leak, mNextS, andThen, mVar, mC, slot, peek, peeks, nrm, O.pk, O.frz, mIf, mTB, mTru, mAnd, mOr, mNot, mOp1, mOp2, mOl1, mOl2, mTup, mLst, mLks, mDct, mDvs, mBi, mBl, mRs, mSm0, mSm1, mSl, mSlL, mPt, mIt, mItZ, zipR, mCall, asArgs, asArg, back, ofRes, mergeO, ofO, ofOS, sIf, sRet, sRetN, sPass, sExp, sAug, sUnp, sPar, sAsg2, sSto, sBrk, sCnt, sFor, sDrop, sMatch, mtL, mOs, setAll, sPut, mItK, mMut0, mMut1, wipeE, unwipe, lcEnd, mLc, mBad, sBad, mNotV, mAndV, mOrV, Tg.put, putAll, List.map_cons, List.map_nil, List.replicate, List.cons_append, List.nil_append, List.getElem?_cons_zero, List.getElem?_cons_succ, Option.bind_some, List.set_cons_zero, List.set_cons_succ, List.take_succ_cons, List.take_zero, List.headD_cons, List.headD_nil, List.tail_cons, List.tail_nil, Option.map_some, Option.map_none, if_true, if_false, Bool.false_eq_true, ite_true, ite_false, Bool.not_true, Bool.not_false, Bool.true_and, Bool.false_and, List.contains, List.elem, List.append_nil, List.length_cons, List.length_nil, Nat.zero_add, Nat.reduceAdd, Nat.reduceLeDiff, lim, Nat.reduceBEq, beq_self_eq_true, Bool.and_self, sl, zl, l1, l2, g1, ll, mi, it, ri, lp, an, lt3, i2, il, al, an2]
def seven : List (List Kd) := [[.L, .R, .A, .D, .S, .T, .N], [.D, .S, .T, .N], [.D, .S, .T], [.A, .D, .T], [.R, .D, .S, .T, .N], [.T, .N], [.L, .R, .A]]
theorem turn1 (ns : List Int) (hn : ns.length ≤ 63) (i : Int) (hi : 0 ≤ i) (e2 e3 e4 e5 e6 e7 : Option O) :
    b_law_1 [some (.sh (.lst (ns.map .int))), some (.sh (.int i)), e2, e3, e4, e5, e6, e7, none, none, none, none, none, none] = .nx [some (.sh (.lst (ns.map .int))), none, none, none, none, none, none, none, none, none, none, none, none, none] := by
  obtain ⟨a0, m0, zb⟩ := z_bag ns hn i hi
  obtain ⟨a1, m1, d, hd, zw⟩ := z_of_lst a0 m0 (seven.map wS) (by decide) (by decide)
  obtain ⟨w, hw, rfl⟩ := List.mem_map.mp hd
  have h01 : w ≠ [] ∧ w.length < 1000 := by
    have : ∀ w ∈ seven, w ≠ [] ∧ w.length < 1000 := by decide
    exact this w hw
  have sv : (seven.map wS) = [.str [76, 82, 65, 68, 83, 84, 78], .str [68, 83, 84, 78], .str [68, 83, 84], .str [65, 68, 84], .str [82, 68, 83, 84, 78], .str [84, 78], .str [76, 82, 65]] := rfl
  rw [sv] at zw
  obtain ⟨a2, m2, x, hx, z1⟩ := z_text a1 m1 w 8 (by decide) (by decide) h01.1 h01.2
  obtain ⟨a3, m3, y, hy, z2⟩ := z_text a2 m2 w 30 (by decide) (by decide) h01.1 h01.2
  have hx : Al 8 x := hx
  have hy : Al 30 y := hy
  have q1 := z_least hx (by decide)
  have q2 := z_least hy (by decide)
  have q3 := z_least (lst_al x) (by decide)
  rw [lst_lst] at q3
  have hxy : Al 38 (x ++ y) := hx.app hy
  have q4 := z_least hxy (by decide)
  have o1 := z_one hx (lst_al x) (by decide) (by decide)
  rw [decide_eq_true (run_lst x).symm] at o1
  have o2 := z_one (lst_al y) hy (by decide) (by decide)
  rw [decide_eq_true (run_lst y)] at o2
  have p1 := z_product hx hy (by decide) (by decide)
  have p2 := z_product (lst_al x) (lst_al y) (by decide) (by decide)
  rw [lst_left] at p2
  have p3 := z_product hx (lst_al y) (by decide) (by decide)
  rw [lst_right] at p2 p3
  have ad := add_str (x := x) (y := y) (by have := hx.2; have := hy.2; show x.length + y.length ≤ 16777216; omega)
  have rf : ∀ l : List Nat, neD (.str l) (.str l) = some (.bl false) := fun l => by rw [ne_strs, beq_self_eq_true]; rfl
  have rf1 := rf (lst x)
  have rf2 := rf (lst (x ++ y))
  obtain ⟨a4, m4, t0⟩ := turn0 hx a3 m3 (some (.sh (.lst (ns.map .int)))) (some (.sh (.int i))) (some (.sh (wS w))) (some (.sh (.str x))) (some (.sh (.str y))) (some (.sh (.str (lst x)))) (some (.sh (.str (lst y))))
  obtain ⟨a5, m5, t1⟩ := turn0 hy a4 m4 (some (.sh (.lst (ns.map .int)))) (some (.sh (.int i))) (some (.sh (wS w))) (some (.sh (.str x))) (some (.sh (.str y))) (some (.sh (.str (lst x)))) (some (.sh (.str (lst y))))
  have lp : forL (.tp [(.nm 8), (.nm 9)]) b_law_0 [.tup [.str x, .str (lst x)], .tup [.str y, .str (lst y)]] [some (.sh (.lst (ns.map .int))), some (.sh (.int i)), some (bg a3 m3), some (.sh (wS w)), some (.sh (.str x)), some (.sh (.str y)), some (.sh (.str (lst x))), some (.sh (.str (lst y))), none, none, none, none, none, none] =
      .nx [some (.sh (.lst (ns.map .int))), some (.sh (.int i)), some (bg a5 m5), some (.sh (wS w)), some (.sh (.str x)), some (.sh (.str y)), some (.sh (.str (lst x))), some (.sh (.str (lst y))), none, none, none, none, none, none] := by
    rw [for_cons rfl t0, for_cons rfl t1]
    rfl
  have i2 : itL (.lst [.tup [.str x, .str (lst x)], .tup [.str y, .str (lst y)]]) = some [.tup [.str x, .str (lst x)], .tup [.str y, .str (lst y)]] := rfl
  clear hx hy hxy hd hw t0 t1 sv
  generalize lst (x ++ y) = P2 at *
  generalize lst x = P1 at *
  generalize lst y = P5 at *
  generalize x ++ y = XY at *
  generalize ns.map F.D.int = S at *
  generalize wS w = W at *
  simp only [b_law_1, runF, gdO, finR, endF, allO, sSeq, sSet, setR, sOf, leak, mNextS, andThen, mVar, mC, slot, peek, peeks, nrm, O.pk, O.frz, mIf, mTB, mTru, mAnd, mOr, mNot, mOp1, mOp2, mOl1, mOl2, mTup, mLst, mLks, mDct, mDvs, mBi, mBl, mRs, mSm0, mSm1, mSl, mSlL, mPt, mIt, mItZ, zipR, mCall, asArgs, asArg, back, ofRes, mergeO, ofO, ofOS, sIf, sRet, sRetN, sPass, sExp, sAug, sUnp, sPar, sAsg2, sSto, sBrk, sCnt, sFor, sDrop, sMatch, mtL, mOs, setAll, sPut, mItK, mMut0, mMut1, wipeE, unwipe, lcEnd, mLc, mBad, sBad, mNotV, mAndV, mOrV, Tg.put, putAll, List.map_cons, List.map_nil, List.replicate, List.cons_append, List.nil_append, List.getElem?_cons_zero, List.getElem?_cons_succ, Option.bind_some, List.set_cons_zero, List.set_cons_succ, List.take_succ_cons, List.take_zero, List.headD_cons, List.headD_nil, List.tail_cons, List.tail_nil, Option.map_some, Option.map_none, if_true, if_false, Bool.false_eq_true, ite_true, ite_false, Bool.not_true, Bool.not_false, Bool.true_and, Bool.false_and, List.contains, List.elem, List.append_nil, List.length_cons, List.length_nil, Nat.zero_add, Nat.reduceAdd, Nat.reduceLeDiff, lim, Nat.reduceBEq, beq_self_eq_true, Bool.and_self, truD, zb, zw, z1, z2, q1, q2, q3, q4, o1, o2, p1, p2, p3, ad, rf1, rf2, i2, lp]
def dueK : List (List Nat) := [[], [32, 32, 32], [44, 44], [36, 36], [33, 36], [49, 50, 44, 51], [49, 44, 44], [35, 49], [45, 49], [97, 66, 99]]
def dueV : List (List Nat) := [[], [32], [32], [35], [32, 35], [48], [48, 32], [35, 48], [32, 48], [43]]
theorem due_al : ∀ x ∈ dueK, Al 10 x := by
  intro x hx
  have h1 : ∀ x ∈ dueK, x.length ≤ 10 ∧ (x.all fun c => alpha.contains c) = true := by decide
  obtain ⟨h2, h3⟩ := h1 x hx
  exact ⟨fun c hc => by simpa using List.all_eq_true.mp h3 c hc, h2⟩
theorem due_lst : dueK.map lst = dueV := by decide +kernel
theorem due_loop (e0 e11 : Option O) : lcL [8] (.nm 8) mYes (mCall Z_least [] [] [(mVar 8)]) (dueK.map .str) [] [e0, none, none, none, none, none, none, none, none, none, none, e11, none, none] = .ok (dueV.map .str) [e0, none, none, none, none, none, none, none, none, none, none, e11, none, none] := by
  have := lc_map (enc := F.D.str) (own := [8]) (t := .nm 8) (c := mYes) (v := mCall Z_least [] [] [(mVar 8)]) (e := [e0, none, none, none, none, none, none, none, none, none, none, e11, none, none]) (f := fun x => F.D.str (lst x)) (as := dueK) (acc := []) (fun x hx => by
    have z1 := z_least (due_al x hx) (by decide)
    simp only [lcOne, mYes, runF, gdO, finR, endF, allO, sSeq, sSet, setR, sOf, leak, mNextS, andThen, mVar, mC, slot, peek, peeks, nrm, O.pk, O.frz, mIf, mTB, mTru, mAnd, mOr, mNot, mOp1, mOp2, mOl1, mOl2, mTup, mLst, mLks, mDct, mDvs, mBi, mBl, mRs, mSm0, mSm1, mSl, mSlL, mPt, mIt, mItZ, zipR, mCall, asArgs, asArg, back, ofRes, mergeO, ofO, ofOS, sIf, sRet, sRetN, sPass, sExp, sAug, sUnp, sPar, sAsg2, sSto, sBrk, sCnt, sFor, sDrop, sMatch, mtL, mOs, setAll, sPut, mItK, mMut0, mMut1, wipeE, unwipe, lcEnd, mLc, mBad, sBad, mNotV, mAndV, mOrV, Tg.put, putAll, List.map_cons, List.map_nil, List.replicate, List.cons_append, List.nil_append, List.getElem?_cons_zero, List.getElem?_cons_succ, Option.bind_some, List.set_cons_zero, List.set_cons_succ, List.take_succ_cons, List.take_zero, List.headD_cons, List.headD_nil, List.tail_cons, List.tail_nil, Option.map_some, Option.map_none, if_true, if_false, Bool.false_eq_true, ite_true, ite_false, Bool.not_true, Bool.not_false, Bool.true_and, Bool.false_and, List.contains, List.elem, List.append_nil, List.length_cons, List.length_nil, Nat.zero_add, Nat.reduceAdd, Nat.reduceLeDiff, lim, Nat.reduceBEq, beq_self_eq_true, Bool.and_self, z1])
  rw [this, ← due_lst, List.map_map]
  rfl
theorem plain (ns : List Int) (h : ns.length ≤ 63) : ∃ os, Z_law [.sh (.lst (ns.map .int))] = .rt (.sh (.bl true)) os := by
  have ll := len_lst (ns.map F.D.int)
  have mi := min_int 3 ((ns.map F.D.int).length : Nat)
  have ma := max_int 2 (if ((ns.map F.D.int).length : Int) < 3 then ((ns.map F.D.int).length : Int) else 3)
  have hb : 0 ≤ (if (if ((ns.map F.D.int).length : Int) < 3 then ((ns.map F.D.int).length : Int) else 3) > 2 then (if ((ns.map F.D.int).length : Int) < 3 then ((ns.map F.D.int).length : Int) else 3) else 2) ∧ (if (if ((ns.map F.D.int).length : Int) < 3 then ((ns.map F.D.int).length : Int) else 3) > 2 then (if ((ns.map F.D.int).length : Int) < 3 then ((ns.map F.D.int).length : Int) else 3) else 2) ≤ 3 := by
    constructor
    · repeat' split
      all_goals omega
    · repeat' split
      all_goals omega
  generalize (if (if ((ns.map F.D.int).length : Int) < 3 then ((ns.map F.D.int).length : Int) else 3) > 2 then (if ((ns.map F.D.int).length : Int) < 3 then ((ns.map F.D.int).length : Int) else 3) else 2) = n at *
  generalize (if ((ns.map F.D.int).length : Int) < 3 then ((ns.map F.D.int).length : Int) else 3) = n1 at *
  have it : itR1 (.int n) = some (rngF 0 n.toNat) := if_pos ⟨by omega, by omega⟩
  have lp : ∀ (ds : List F.D), (∀ d ∈ ds, ∃ i : Int, 0 ≤ i ∧ d = .int i) → forL (.nm 1) b_law_1 ds [some (.sh (.lst (ns.map .int))), none, none, none, none, none, none, none, none, none, none, none, none, none] = .nx [some (.sh (.lst (ns.map .int))), none, none, none, none, none, none, none, none, none, none, none, none, none] := by
    intro ds
    induction ds with
    | nil => exact fun _ => rfl
    | cons d ds ih =>
      intro hd
      obtain ⟨i, hi, rfl⟩ := hd d (List.mem_cons_self ..)
      rw [for_cons rfl (turn1 ns h i hi none none none none none none)]
      exact ih fun d hd' => hd d (List.mem_cons_of_mem _ hd')
  have lp := lp (rngF 0 n.toNat) (fun d hd => by
    rw [rngF_map] at hd
    obtain ⟨i, _, rfl⟩ := List.mem_map.mp hd
    exact ⟨_, by omega, rfl⟩)
  have dk : (([(.s [], .str []), (.s [32, 32, 32], .str [32]), (.s [44, 44], .str [32]), (.s [36, 36], .str [35]), (.s [33, 36], .str [32, 35]), (.s [49, 50, 44, 51], .str [48]), (.s [49, 44, 44], .str [48, 32]), (.s [35, 49], .str [35, 48]), (.s [45, 49], .str [32, 48])] : List (Ky × F.D)).length < 16777216) = True := eq_true (by decide)
  have pd : putD ([(.s [], .str []), (.s [32, 32, 32], .str [32]), (.s [44, 44], .str [32]), (.s [36, 36], .str [35]), (.s [33, 36], .str [32, 35]), (.s [49, 50, 44, 51], .str [48]), (.s [49, 44, 44], .str [48, 32]), (.s [35, 49], .str [35, 48]), (.s [45, 49], .str [32, 48])] : List (Ky × F.D)) (.s [97, 66, 99]) (.str [43]) =
      [(.s [], .str []), (.s [32, 32, 32], .str [32]), (.s [44, 44], .str [32]), (.s [36, 36], .str [35]), (.s [33, 36], .str [32, 35]), (.s [49, 50, 44, 51], .str [48]), (.s [49, 44, 44], .str [48, 32]), (.s [35, 49], .str [35, 48]), (.s [45, 49], .str [32, 48]), (.s [97, 66, 99], .str [43])] := by rfl
  have kd : keyD (.str [97, 66, 99]) = some (.s [97, 66, 99]) := rfl
  have ak : ([(.s [], .str []), (.s [32, 32, 32], .str [32]), (.s [44, 44], .str [32]), (.s [36, 36], .str [35]), (.s [33, 36], .str [32, 35]), (.s [49, 50, 44, 51], .str [48]), (.s [49, 44, 44], .str [48, 32]), (.s [35, 49], .str [35, 48]), (.s [45, 49], .str [32, 48]), (.s [97, 66, 99], .str [43])] : List (Ky × F.D)).map keysD = dueK.map .str := rfl
  have vk : valsL (.dct [(.s [], .str []), (.s [32, 32, 32], .str [32]), (.s [44, 44], .str [32]), (.s [36, 36], .str [35]), (.s [33, 36], .str [32, 35]), (.s [49, 50, 44, 51], .str [48]), (.s [49, 44, 44], .str [48, 32]), (.s [35, 49], .str [35, 48]), (.s [45, 49], .str [32, 48]), (.s [97, 66, 99], .str [43])]) = some (dueV.map .str) := rfl
  have al : (([(.s [], .str []), (.s [32, 32, 32], .str [32]), (.s [44, 44], .str [32]), (.s [36, 36], .str [35]), (.s [33, 36], .str [32, 35]), (.s [49, 50, 44, 51], .str [48]), (.s [49, 44, 44], .str [48, 32]), (.s [35, 49], .str [35, 48]), (.s [45, 49], .str [32, 48]), (.s [97, 66, 99], .str [43])] : List (Ky × F.D)).all kyOk) = true := by decide
  have dl := due_loop (some (.sh (.lst (ns.map .int)))) (some (.sh (.dct [(.s [], .str []), (.s [32, 32, 32], .str [32]), (.s [44, 44], .str [32]), (.s [36, 36], .str [35]), (.s [33, 36], .str [32, 35]), (.s [49, 50, 44, 51], .str [48]), (.s [49, 44, 44], .str [48, 32]), (.s [35, 49], .str [35, 48]), (.s [45, 49], .str [32, 48]), (.s [97, 66, 99], .str [43])])))
  have dn : ((dueK.map F.D.str).length ≤ 16777216) = True := eq_true (by decide)
  have ee : eqD (.lst (dueV.map .str)) (.lst (dueV.map .str)) = some (.bl true) := rfl
  generalize dueV.map F.D.str = V at *
  generalize dueK.map F.D.str = Kk at *
  generalize rngF 0 n.toNat = R at *
  generalize ((ns.map F.D.int).length : Int) = Ln at *
  generalize ns.map F.D.int = S at *
  generalize ([(.s [], .str []), (.s [32, 32, 32], .str [32]), (.s [44, 44], .str [32]), (.s [36, 36], .str [35]), (.s [33, 36], .str [32, 35]), (.s [49, 50, 44, 51], .str [48]), (.s [49, 44, 44], .str [48, 32]), (.s [35, 49], .str [35, 48]), (.s [45, 49], .str [32, 48]), (.s [97, 66, 99], .str [43])] : List (Ky × F.D)) = D10 at *
  exact ⟨[.sh (.lst S)], by simp only [Z_law, m_law, runF, gdO, finR, endF, allO, sSeq, sSet, setR, sOf, leak, mNextS, andThen, mVar, mC, slot, peek, peeks, nrm, O.pk, O.frz, mIf, mTB, mTru, mAnd, mOr, mNot, mOp1, mOp2, mOl1, mOl2, mTup, mLst, mLks, mDct, mDvs, mBi, mBl, mRs, mSm0, mSm1, mSl, mSlL, mPt, mIt, mItZ, zipR, mCall, asArgs, asArg, back, ofRes, mergeO, ofO, ofOS, sIf, sRet, sRetN, sPass, sExp, sAug, sUnp, sPar, sAsg2, sSto, sBrk, sCnt, sFor, sDrop, sMatch, mtL, mOs, setAll, sPut, mItK, mMut0, mMut1, wipeE, unwipe, lcEnd, mLc, mBad, sBad, mNotV, mAndV, mOrV, Tg.put, putAll, List.map_cons, List.map_nil, List.replicate, List.cons_append, List.nil_append, List.getElem?_cons_zero, List.getElem?_cons_succ, Option.bind_some, List.set_cons_zero, List.set_cons_succ, List.take_succ_cons, List.take_zero, List.headD_cons, List.headD_nil, List.tail_cons, List.tail_nil, Option.map_some, Option.map_none, if_true, if_false, Bool.false_eq_true, ite_true, ite_false, Bool.not_true, Bool.not_false, Bool.true_and, Bool.false_and, List.contains, List.elem, List.append_nil, List.length_cons, List.length_nil, Nat.zero_add, Nat.reduceAdd, Nat.reduceLeDiff, lim, Nat.reduceBEq, beq_self_eq_true, Bool.and_self, ll, mi, ma, it, lp, dk, pd, kd, ak, vk, al, dl, dn, ee, Nat.reduceLT]⟩
end F
end

section
set_option Elab.async false
set_option linter.all false
set_option autoImplicit false
set_option maxRecDepth 100000
set_option maxHeartbeats 0

namespace F
open PySem PySem.Spec PyProof.Rows L2
abbrev RW : PySem.W.OpenRow := PySem.W.OpenLaw.row PySem.Challenge.rw_holedlines_k44_least_texts_of_kinds
abbrev hk : PySem.W.Hook := He.hookX 2 fa fn ts tf exB
def ob (s : PySem.W.SharedT) : He.AlX := He.obsX 2 fa fn ts tf exB (HandSHeadRun.getT s)
theorem ob_eq (s : PySem.W.SharedT) : ob s = hk.obs s.abs := He.obsX_eq (HandSHeadRun.getT_eq s)
def names : List Str := (["BadText", "MOST_CHARACTERS", "MOST_OPEN", "BEGINS", "END", "STRONG", "KINDS", "KNOWN", "overfull", "first_unknown", "first_fault", "need_text", "TAILS", "PLAIN_CHARACTERS", "LEAST_CHARACTERS", "ENDINGS", "BEHIND_DIGIT", "DIGIT", "MOST_FACTOR", "states"] : List Str) ++ (["next_state", "direction_of", "next_direction", "fate", "need_plain", "need_factor", "words_of", "read_in", "fate_within", "entry_of", "effect_of", "lead_of", "head_of", "least_weak", "least_of", "is_one_kind", "least", "product", "_law_bag", "_law_take"] : List Str) ++ (["_law_of", "_law_character", "_law_text", "_law_longer", "_law_lesser"] : List Str)
theorem run_n (w : World) : HandSHeadRun.RunEq RW (PySem.W.view RW.prog [49]) hk ob 4000 names (w.withFollow "special-get-raises" false) := fun os => by kernel_rfl
theorem run_y (w : World) : HandSHeadRun.RunEq RW (PySem.W.view RW.prog [49]) hk ob 4000 names (w.withFollow "special-get-raises" true) := fun os => by kernel_rfl
theorem run (w : World) : HandSHeadRun.RunEq RW (PySem.W.view RW.prog [49]) hk ob 4000 names w :=
  PySem.W.byRow2 "special-get-raises" (P := fun w => HandSHeadRun.RunEq RW (PySem.W.view RW.prog [49]) hk ob 4000 names w) run_n run_y w
end F
end

section
set_option Elab.async false
set_option linter.all false
set_option autoImplicit false
set_option maxRecDepth 100000
set_option maxHeartbeats 0
namespace F
open PySem PySem.Spec PyProof.Rows L2
theorem facts {P : Program} {w : World} {K : PySem.W.Frag} {h : Heap} {mg : Str → Option Value} {f : Addr} (X : K.In h) (G : h.Ns mainGlobals mg) (hfa : mg ("law" : Str) = some (.ref f)) (c : He.SaysX fa fn ts tf exB w h K) :
    ∃ fd : FuncData, (∀ (s : Shared) (v : Value), BindsTo s fd ⟨[v], []⟩ [("_law_script", v)]) ∧ ∀ base : Heap, K.In base → base.Ns mainGlobals mg → Bx K mg base → FnOk P w K mg base (L2.CX P w) 8 f fd ["_law_script"] (spF (tb K) ⟨K, (tb K).cls, (tb K).fld, (tb K).tabs, (tb K).ex, (tb K).exM, (tb K).exR⟩ Z_law 1) := by
  have F : Fx w K mg := ⟨h, X, G, c⟩
  have e := hfa.symm.trans (g_law F)
  cases e
  obtain ⟨fd, hf⟩ := fd_law F
  have b := FunD.bindsA (ps := ["_law_script"]) hf fun _ _ _ _ _ _ us hl => match us, hl with | [_], _ => rfl
  refine ⟨fd, fun s v => b s [v] rfl, fun base _ _ B => ?_⟩
  obtain ⟨fd', hf', h'⟩ := o_law (P := P) (base := base) F B
  rw [fd_uniq hf hf']
  exact h'
end F
open PySem PySem.W PySem.Calls PyProof.Rows
theorem PySem.Challenge.cw_holedlines_k44_least_texts_of_kinds_holds : PySem.Challenge.rw_holedlines_k44_least_texts_of_kinds.Holds := by
  w_on; o_law
  refine HandSHeadRun.head_any (r := F.RW) (q := view F.RW.prog [49]) (H := F.hk) (ob := F.ob) (M := 4000) (loose := F.names) (d := HandSHeadRun.topDef F.RW.prog 49) (kwd := []) F.ob_eq
    (by kernel_rfl) (fun s => by kernel_rfl) F.run (by kernel_rfl) (by kernel_rfl) (by kernel_rfl) (by rfl) (by first | assumption | decide +kernel) (by decide +kernel) ⟨rfl, rfl, rfl, rfl, rfl, by decide +kernel⟩ ?hw ?hc
  case hw => w_witness2
  case hc =>
    refine LamX.walk_ofTsE (l := PySem.Challenge.rw_holedlines_k44_least_texts_of_kinds) (n := 63) (k := 8) (x := "_law_script") (CX := fun w => L2.CX PySem.Challenge.rw_holedlines_k44_least_texts_of_kinds.prog w) rfl (by decide) (by kernel_rfl) ⟨rfl, by decide, by decide⟩ ?F (fun _ => F.no_exc)
    intro w mg fa h Y G hmg0
    obtain ⟨K, KX, c⟩ := Y
    have hmg : mg ("law" : PySem.Str) = some (.ref fa) := by
      have e : (HandSHeadRun.topDef F.RW.prog 49).name = ("law" : PySem.Str) := by kernel_rfl
      rw [← e]
      exact hmg0
    obtain ⟨fd, hb, hF⟩ := F.facts (P := PySem.Challenge.rw_holedlines_k44_least_texts_of_kinds.prog) (w := w) KX G hmg c
    refine ⟨K, KX, fd, F.tf.map (He.cT K), _, ?_, ?_, ?_, hb, fun H a ns hl _ hT hS => F.law_end (t := F.tb K) F.plain H a ns hl (fun p hp => ?_) hS, fun base hK hG hB => hF base hK hG fun p hp => hB _ (List.mem_map.mpr ⟨p, hp, rfl⟩)⟩
    · intro p hp
      obtain ⟨q, hq, e⟩ := List.mem_map.mp hp
      rw [← e]
      exact c.empty q hq
    · intro p hp
      obtain ⟨q, hq, e⟩ := List.mem_map.mp hp
      rw [← e]
      exact c.out q hq
    · intro p hp
      obtain ⟨q, hq, e⟩ := List.mem_map.mp hp
      rw [← e]
      exact codeHd_of_K KX (c.hd q hq)
    · obtain ⟨q, hq, e⟩ := List.mem_map.mp hp
      rw [← e]
      exact hT _ (List.mem_map.mpr ⟨q, hq, rfl⟩)
end
