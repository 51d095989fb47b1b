import PyProof.Rows.All
import Wide.All
import OpenK.AllK
import Wide.FinOn
import HandS.ForMost
import HandS.Walk
import HandS.ForExc
import HandS.Lambda
import HandS.CallSlots
import HandS.Style
import KE.DataEq
import HandS.Text
import HandS.Defaults
import HandS.IsInst
import PyProof.RulesMatch
import PyProof.EnumMake
import PyProof.Draws
import HandS.Flow
import HandS.Codes
import HandS.More
import HandS.Comp
import PyProof.CollectStr
import KE.SortCalls
import HandS.Words
import HandS.Exc
import HandS.HeadHook4
import HandS.AnyAll
import HandS.StrMore
import HandS.Nested
import HandS.Iter
import HandS.Conv
import HandS.ExcInit
import HandS.ExcField
import HandS.ExcIs
import HandS.HeadWalk
import HandS.EndTab
import PyProof.ReprReads
import PyProof.Rows.NestShow
import PyProof.CallFns
import HandS.WrittenGet
import PyProof.StrOps2
import PyProof.ListMulRoad
import PyProof.ListStr
import KE.GoesEnumKw
import HandS.Star
import Wide.Once
import KE.KStateDown
import HandS.Head0
import HandS.Head1
import HandS.Head2
import HandS.HeadEnd
import PySem.Challenge.RW_holedlines_k23_levels_of_parts_by_classe
set_option Elab.async false
section
set_option linter.all false
/-! F layer, part A: python values as plain data, bodies of defs as compositions of plain functions. Core Lean alone. -/
namespace F
inductive Ky where
  | i (n : Int) | s (x : List Nat)
  deriving DecidableEq
/-- a value without addresses: what can no longer change -/
inductive D where
  | non | bl (b : Bool) | int (i : Int) | str (x : List Nat)
  | tup (l : List D) | lst (l : List D) | dct (l : List (Ky × D)) | obj (c : Nat) (l : List D)
  /-- a thing of the kind k that d describes; what it is in memory is told elsewhere -/
  | ex (k : Nat) (d : D)
/-- what a name holds: shared data, or a thing of its own (a list, a dict, an instance) that it alone holds -/
inductive O where
  | sh (d : D) | fl (l : List D) | fd (l : List (Ky × D)) | fo (c : Nat) (l : List O)
abbrev Env := List (Option O)
/-- an expression's answer: data, a name's thing, a new thing -/
inductive R where
  | d (x : D) | sl (i : Nat) | ow (o : O)
inductive Rs (α : Type) where
  | ok (a : α) (e : Env) | ex (c : Nat) (p : D) (e : Env) | bad
abbrev M (α : Type) := Env → Rs α
/-- a statement's answer -/
inductive SR where
  | nx (e : Env) | rt (o : O) (e : Env) | bk (e : Env) | ct (e : Env) | ex (c : Nat) (p : D) (e : Env) | bad
abbrev MS := Env → SR
/-- a def's answer: the result, the arguments' things behind the call -/
inductive FR where
  | rt (o : O) (os : List O) | ex (c : Nat) (p : D) (os : List O) | bad
abbrev Fn := List O → FR
def lim : Nat := 16777216
mutual
def O.frz : O → D
  | .sh d => d
  | .fl l => .lst l
  | .fd l => .dct l
  | .fo c l => .obj c (frzs l)
def frzs : List O → List D
  | [] => []
  | o :: os => o.frz :: frzs os
end
def slot (e : Env) (i : Nat) : Option O := match e[i]? with
  | some (some o) => some o
  | _ => none
/-- a thing read off (an instance's fields are read one by one) -/
def O.pk : O → Option D
  | .sh d => some d
  | .fl l => some (.lst l)
  | .fd l => some (.dct l)
  | .fo _ _ => none
/-- an answer read off, held no longer than an operation -/
def peek : R → Env → Option D
  | .d x, _ => some x
  | .sl i, e => (slot e i).bind O.pk
  | .ow o, _ => o.pk
/-- an answer that is kept from now on: it can't be changed any more -/
def leak : R → M D
  | .d x, e => .ok x e
  | .sl i, e => match slot e i with
    | some o => .ok o.frz (e.set i (some (.sh o.frz)))
    | none => .bad
  | .ow o, e => .ok o.frz e
def nrm : R → R
  | .ow o => .d o.frz
  | r => r
/-! ### expressions -/
/-- places -/
def ixI (n : Nat) (i : Int) : Option Nat := if 0 ≤ i then (if i < n then some i.toNat else none) else if -(n : Int) ≤ i then some (i + n).toNat else none
def getI {α : Type} (l : List α) (i : Int) : Option α := (ixI l.length i).bind fun j => l[j]?
def mBad {α : Type} : M α := fun _ => .bad
def mVar (i : Nat) : M R := fun e => match slot e i with
  | some _ => .ok (.sl i) e
  | none => .bad
def mC (d : D) : M R := fun e => .ok (.d d) e
def andThen {α β : Type} (r : Rs α) (f : α → Env → Rs β) : Rs β := match r with
  | .ok a e => f a e
  | .ex c p e => .ex c p e
  | .bad => .bad
def ofO {α : Type} (x : Option α) (f : α → Rs β) : Rs β := match x with
  | some a => f a
  | none => .bad
/-- one operand, two operands: read off, a value out -/
def mOp1 (f : D → Option D) (a : M R) : M R := fun e => andThen (a e) fun r e1 => ofO (peek r e1) fun x => ofO (f x) fun z => .ok (.d z) e1
def mOp2 (f : D → D → Option D) (a b : M R) : M R := fun e => andThen (a e) fun r e1 => andThen (b e1) fun q e2 => ofO (peek (nrm r) e2) fun x => ofO (peek q e2) fun y => ofO (f x y) fun z => .ok (.d z) e2
/-- the same, a new list out -/
def mOl1 (f : D → Option (List D)) (a : M R) : M R := fun e => andThen (a e) fun r e1 => ofO (peek r e1) fun x => ofO (f x) fun z => .ok (.ow (.fl z)) e1
def mOl2 (f : D → D → Option (List D)) (a b : M R) : M R := fun e => andThen (a e) fun r e1 => andThen (b e1) fun q e2 => ofO (peek (nrm r) e2) fun x => ofO (peek q e2) fun y => ofO (f x y) fun z => .ok (.ow (.fl z)) e2
/-- several, each kept -/
def mLks : List (M R) → M (List D)
  | [], e => .ok [] e
  | m :: ms, e => andThen (m e) fun r e1 => andThen (leak r e1) fun d e2 => andThen (mLks ms e2) fun ds e3 => .ok (d :: ds) e3
def mTup (ms : List (M R)) : M R := fun e => andThen (mLks ms e) fun ds e1 => if ds.length ≤ lim then .ok (.d (.tup ds)) e1 else .bad
def mLst (ms : List (M R)) : M R := fun e => andThen (mLks ms e) fun ds e1 => if ds.length ≤ lim then .ok (.ow (.fl ds)) e1 else .bad
/-- a text's method with one argument, without -/
def mSm1 (f : List Nat → D → Option D) (o a : M R) : M R := fun e => andThen (o e) fun r e1 => match peek r e1 with
  | some (.str x) => andThen (a e1) fun q e2 => ofO (peek q e2) fun y => ofO (f x y) fun z => .ok (.d z) e2
  | _ => .bad
def mSm0 (f : List Nat → Option D) (o : M R) : M R := fun e => andThen (o e) fun r e1 => match peek r e1 with
  | some (.str x) => ofO (f x) fun z => .ok (.d z) e1
  | _ => .bad
/-- a part of a slice -/
def mPt : Option (M R) → M (Option Int)
  | none, e => .ok none e
  | some m, e => andThen (m e) fun r e1 => match peek r e1 with
    | some (.int i) => .ok (some i) e1
    | _ => .bad
/-- xs[lo:hi]: a value; a new list -/
def mSl (f : D → Option Int → Option Int → Option D) (a : M R) (lo hi : Option (M R)) : M R := fun e => andThen (a e) fun r e1 => andThen (mPt lo e1) fun l e2 => andThen (mPt hi e2) fun h e3 => ofO (peek (nrm r) e3) fun x => ofO (f x l h) fun z => .ok (.d z) e3
def mSlL (f : D → Option Int → Option Int → Option (List D)) (a : M R) (lo hi : Option (M R)) : M R := fun e => andThen (a e) fun r e1 => andThen (mPt lo e1) fun l e2 => andThen (mPt hi e2) fun h e3 => ofO (peek (nrm r) e3) fun x => ofO (f x l h) fun z => .ok (.ow (.fl z)) e3
/-- {k: v, ..}, the keys written and different -/
def mDvs : List (Ky × M R) → M (List (Ky × D))
  | [], e => .ok [] e
  | (k, m) :: ms, e => andThen (m e) fun r e1 => andThen (leak r e1) fun d e2 => andThen (mDvs ms e2) fun ds e3 => .ok ((k, d) :: ds) e3
def mDct (kms : List (Ky × M R)) : M R := fun e => andThen (mDvs kms e) fun l e1 => .ok (.ow (.fd l)) e1
/-- several, read off at the end (none of them a name's thing that a later one changes) -/
def mRs : List (M R) → M (List R)
  | [], e => .ok [] e
  | m :: ms, e => andThen (m e) fun r e1 => andThen (mRs ms e1) fun rs e2 => .ok (nrm r :: rs) e2
def peeks : List R → Env → Option (List D)
  | [], _ => some []
  | r :: rs, e => match peek r e, peeks rs e with
    | some x, some xs => some (x :: xs)
    | _, _ => none
/-- a built-in by its values: a value out; a new list out -/
def mBi (f : List D → Option D) (ms : List (M R)) : M R := fun e => andThen (mRs ms e) fun rs e1 => ofO (peeks rs e1) fun xs => ofO (f xs) fun z => .ok (.d z) e1
def mBl (f : List D → Option (List D)) (ms : List (M R)) : M R := fun e => andThen (mRs ms e) fun rs e1 => ofO (peeks rs e1) fun xs => ofO (f xs) fun z => .ok (.ow (.fl z)) e1
/-- xs.append(e) and its like, xs a name's own list: the answer, the list behind it; the argument is kept -/
def mMut1 (i : Nat) (f : List D → D → Option (D × List D)) (a : M R) : M R := fun e => match slot e i with
  | some (.fl _) => andThen (a e) fun r e1 => andThen (leak r e1) fun d e2 => (match slot e2 i with
    | some (.fl l) => ofO (f l d) fun p => .ok (.d p.1) (e2.set i (some (.fl p.2)))
    | _ => .bad)
  | _ => .bad
def mMut0 (i : Nat) (f : List D → Option (D × List D)) : M R := fun e => match slot e i with
  | some (.fl l) => ofO (f l) fun p => .ok (.d p.1) (e.set i (some (.fl p.2)))
  | _ => .bad
def appF (l : List D) (d : D) : Option (D × List D) := if l.length < lim then some (.non, l ++ [d]) else none
/-! ### tests -/
def truD : D → Option Bool
  | .non => some false
  | .bl b => some b
  | .int i => some (i != 0)
  | .str x => some (!x.isEmpty)
  | .lst l => some (!l.isEmpty)
  | .tup l => some (!l.isEmpty)
  | _ => none
def mTru (a : M R) : M Bool := fun e => andThen (a e) fun r e1 => ofO (peek r e1) fun x => ofO (truD x) fun b => .ok b e1
/-- a test whose value is a bool -/
def mTB (a : M R) : M Bool := fun e => andThen (a e) fun r e1 => match peek r e1 with
  | some (.bl b) => .ok b e1
  | _ => .bad
def mAnd (a b : M Bool) : M Bool := fun e => andThen (a e) fun x e1 => if x = true then b e1 else .ok false e1
def mOr (a b : M Bool) : M Bool := fun e => andThen (a e) fun x e1 => if x = true then .ok true e1 else b e1
def mNot (a : M Bool) : M Bool := fun e => andThen (a e) fun x e1 => .ok (!x) e1
def mIf {α : Type} (c : M Bool) (a b : M α) : M α := fun e => andThen (c e) fun x e1 => if x = true then a e1 else b e1
/-- and, or, not as values: all but the last are bools -/
def mAndV (a b : M R) : M R := fun e => andThen (a e) fun r e1 => match peek r e1 with
  | some (.bl x) => if x = true then b e1 else .ok (.d (.bl false)) e1
  | _ => .bad
def mOrV (a b : M R) : M R := fun e => andThen (a e) fun r e1 => match peek r e1 with
  | some (.bl x) => if x = true then .ok (.d (.bl true)) e1 else b e1
  | _ => .bad
def mNotV (a : M R) : M R := fun e => andThen (a e) fun r e1 => match peek r e1 with
  | some (.bl x) => .ok (.d (.bl (!x))) e1
  | _ => .bad
/-! ### calls of defs -/
/-- an argument: kept (lk), or lent: the name's own thing, changed and given back (bo) -/
inductive Md where
  | lk | bo
  deriving DecidableEq
def asArg : Md → R → Env → Option (O × Env)
  | .bo, .sl i, e => (match slot e i with
    | some o => some (o, e.set i none)
    | none => none)
  | _, r, e => (match leak r e with
    | .ok d e1 => some (.sh d, e1)
    | _ => none)
def asArgs : List Md → List R → Env → Option (List O × Env)
  | _, [], e => some ([], e)
  | ms, r :: rs, e => match asArg (ms.headD .lk) r e with
    | some (o, e1) => (match asArgs ms.tail rs e1 with
      | some (os, e2) => some (o :: os, e2)
      | none => none)
    | none => none
/-- what was lent comes back -/
def back : List Md → List R → List O → Env → Env
  | ms, r :: rs, o :: os, e => (match ms.headD .lk, r with
    | .bo, .sl i => back ms.tail rs os (e.set i (some o))
    | _, _ => back ms.tail rs os e)
  | _, _, _, e => e
def ofRes (o : O) : R := match o with
  | .sh d => .d d
  | o => .ow o
/-- behind the call: what was handed as shared data is as it was -/
def mergeO : List O → List O → List O
  | .sh d :: os, _ :: os' => .sh d :: mergeO os os'
  | _ :: os, o' :: os' => o' :: mergeO os os'
  | _, _ => []
def mCall (F : Fn) (md : List Md) (dfl : List D) (ms : List (M R)) : M R := fun e => andThen (mRs ms e) fun rs e1 => match asArgs md rs e1 with
  | some (os, e2) => (match F (os ++ dfl.map O.sh) with
    | .rt o os' => .ok (ofRes o) (back md rs (mergeO (os ++ dfl.map O.sh) os') e2)
    | .ex c p os' => .ex c p (back md rs (mergeO (os ++ dfl.map O.sh) os') e2)
    | .bad => .bad)
  | none => .bad
/-! ### statements -/
def sBad : MS := fun _ => .bad
def sPass : MS := fun e => .nx e
def sSeq (a b : MS) : MS := fun e => match a e with
  | .nx e1 => b e1
  | r => r
def sOf {α : Type} (r : Rs α) (f : α → Env → SR) : SR := match r with
  | .ok a e => f a e
  | .ex c p e => .ex c p e
  | .bad => .bad
def sBrk : MS := fun e => .bk e
def sCnt : MS := fun e => .ct e
def sExp (a : M R) : MS := fun e => sOf (a e) fun _ e1 => .nx e1
/-- the result: a name's thing goes out with it -/
def sRet (a : M R) : MS := fun e => sOf (a e) fun r e1 => match r with
  | .d x => .rt (.sh x) e1
  | .ow o => .rt o e1
  | .sl i => (match slot e1 i with
    | some (.sh d) => .rt (.sh d) e1
    | some o => .rt o (e1.set i none)
    | none => .bad)
def sRetN : MS := fun e => .rt (.sh .non) e
def sIf (c : M Bool) (a b : MS) : MS := fun e => sOf (c e) fun x e1 => if x = true then a e1 else b e1
/-- x = e -/
def setR (i : Nat) (r : R) (e1 : Env) : SR := match r with
  | .ow o => .nx (e1.set i (some o))
  | r => sOf (leak r e1) fun d e2 => .nx (e2.set i (some (.sh d)))
def sSet (i : Nat) (a : M R) : MS := fun e => sOf (a e) fun r e1 => setR i r e1
/-- a target -/
inductive Tg where
  | nm (i : Nat) | tp (l : List Tg)
mutual
def Tg.put : Tg → D → Env → Option Env
  | .nm i, d, e => some (e.set i (some (.sh d)))
  | .tp ts, .tup ds, e => putAll ts ds e
  | .tp _, _, _ => none
def putAll : List Tg → List D → Env → Option Env
  | [], [], e => some e
  | t :: ts, d :: ds, e => match t.put d e with
    | some e1 => putAll ts ds e1
    | none => none
  | _, _, _ => none
end
/-- several answers, new things left as they are -/
def mOs : List (M R) → M (List O)
  | [], e => .ok [] e
  | m :: ms, e => andThen (m e) fun r e1 => match r with
    | .ow o => andThen (mOs ms e1) fun os e2 => .ok (o :: os) e2
    | r => andThen (leak r e1) fun d e2 => andThen (mOs ms e2) fun os e3 => .ok (.sh d :: os) e3
def setAll : List Nat → List O → Env → Option Env
  | [], [], e => some e
  | i :: is, o :: os, e => setAll is os (e.set i (some o))
  | _, _, _ => none
def ofOS {α : Type} (x : Option α) (f : α → SR) : SR := match x with
  | some a => f a
  | none => .bad
/-- a, b = e -/
def sUnp (t : Tg) (a : M R) : MS := fun e => sOf (a e) fun r e1 => sOf (leak r e1) fun d e2 => ofOS (t.put d e2) .nx
/-- x, y = a, b -/
def sPar (is : List Nat) (ms : List (M R)) : MS := fun e => sOf (mOs ms e) fun os e1 => ofOS (setAll is os e1) .nx
/-- x op= e -/
def sAug (i : Nat) (f : D → D → Option D) (a : M R) : MS := fun e => match slot e i with
  | some _ => sOf (a e) fun r e1 => ofOS (peek (.sl i) e1) fun x => ofOS (peek r e1) fun y => ofOS (f x y) fun z => .nx (e1.set i (some (.sh z)))
  | none => .bad
/-- xs[k] = v, xs a name's own list -/
def sSto (i : Nat) (k v : M R) : MS := fun e => sOf (v e) fun r e1 => sOf (leak r e1) fun d e2 => match slot e2 i with
  | some _ => sOf (k e2) fun q e3 => ofOS (peek q e3) fun j => (match slot e3 i, j with
    | some (.fl l), .int j => (match ixI l.length j with
      | some n => .nx (e3.set i (some (.fl (l.set n d))))
      | none => .bad)
    | _, _ => .bad)
  | none => .bad
/-- a loop over items that stand -/
def forL (t : Tg) (body : MS) : List D → MS
  | [], e => .nx e
  | d :: ds, e => match t.put d e with
    | some e1 => (match body e1 with
      | .nx e2 => forL t body ds e2
      | .ct e2 => forL t body ds e2
      | .bk e2 => .nx e2
      | r => r)
    | none => .bad
def sFor (t : Tg) (it : M (List D)) (body : MS) : MS := fun e => sOf (it e) fun ds e1 => forL t body ds e1
/-- a while, at most so many turns -/
def whL (c : M Bool) (body : MS) : Nat → MS
  | 0, _ => .bad
  | n + 1, e => match c e with
    | .ok true e1 => (match body e1 with
      | .nx e2 => whL c body n e2
      | .ct e2 => whL c body n e2
      | .bk e2 => .nx e2
      | r => r)
    | .ok false e1 => .nx e1
    | .ex k p e1 => .ex k p e1
    | .bad => .bad
def sWhile (n : Nat) (c : M Bool) (body : MS) : MS := whL c body n
/-! ### what is walked: items kept (they stand while the loop runs) -/
def mIt (f : D → Option (List D)) (a : M R) : M (List D) := fun e => andThen (a e) fun r e1 => andThen (leak r e1) fun d e2 => ofO (f d) fun l => .ok l e2
/-! ### comprehensions: own slots are wiped ahead of each turn; t: the target, c: the tests, v: the element -/
def wipeE : Env → List Nat → Env
  | e, [] => e
  | e, i :: is => wipeE (e.set i none) is
/-- behind it the own slots hold what they held, if this was shared data -/
def unwipe (e0 : Env) : Env → List Nat → Env
  | e, [] => e
  | e, i :: is => match slot e0 i with
    | some (.sh d) => unwipe e0 (e.set i (some (.sh d))) is
    | _ => unwipe e0 e is
def lcL (own : List Nat) (t : Tg) (c : M Bool) (v : M R) : List D → List D → Env → Rs (List D)
  | [], acc, e => .ok acc e
  | d :: ds, acc, e => match t.put d e with
    | some e1 => (match c e1 with
      | .ok true e2 => (match v e2 with
        | .ok r e3 => (match leak r e3 with
          | .ok x e4 => lcL own t c v ds (acc ++ [x]) (wipeE e4 own)
          | _ => .bad)
        | _ => .bad)
      | .ok false e2 => lcL own t c v ds acc (wipeE e2 own)
      | _ => .bad)
    | none => .bad
def lcEnd (e1 : Env) (own : List Nat) : Rs (List D) → Rs R
  | .ok l e2 => .ok (.ow (.fl l)) (unwipe e1 e2 own)
  | _ => .bad
def mLc (own : List Nat) (t : Tg) (it : M (List D)) (c : M Bool) (v : M R) : M R := fun e => andThen (it e) fun ds e1 => if ds.length ≤ lim then lcEnd e1 own (lcL own t c v ds [] (wipeE e1 own)) else .bad
def mYes : M Bool := fun e => .ok true e
/-! ### match on texts -/
/-- the cases: texts (none: any subject), body -/
def mtL : List (Option (List (List Nat)) × MS) → List Nat → MS
  | [], _, e => .nx e
  | (p, b) :: r, x, e => if (match p with | none => true | some l => l.contains x) = true then b e else mtL r x e
def sMatch (a : M R) (cs : List (Option (List (List Nat)) × MS)) : MS := fun e => sOf (a e) fun r e1 => match peek r e1 with
  | some (.str x) => mtL cs x e1
  | _ => .bad
/-! ### a def -/
def allO : List (Option O) → Option (List O)
  | [] => some []
  | some o :: r => (allO r).map (o :: ·)
  | none :: _ => none
def endF (n : Nat) (e : Env) : Option (List O) := allO (e.take n)
/-- things that are lent stand at the parameters of pr alone -/
def gdO (pr : Nat → Bool) : Nat → List O → Bool
  | _, [] => true
  | i, .sh _ :: r => gdO pr (i + 1) r
  | i, _ :: r => pr i && gdO pr (i + 1) r
def finR (n : Nat) : SR → FR
  | .nx e => (match endF n e with
    | some os' => .rt (.sh .non) os'
    | none => .bad)
  | .rt o e => (match endF n e with
    | some os' => .rt o os'
    | none => .bad)
  | .ex c p e => (match endF n e with
    | some os' => .ex c p os'
    | none => .bad)
  | _ => .bad
def runF (pr : Nat → Bool) (n k : Nat) (m : MS) : Fn := fun os => if gdO pr 0 os = true then finR n (m (os.map some ++ List.replicate k none)) else .bad
/-! ### operations on data -/
def mulOk (i j : Int) : Bool := (decide (-18446744073709551616 < i) && decide (i < 18446744073709551616)) || (decide (-18446744073709551616 < j) && decide (j < 18446744073709551616))
def addD : D → D → Option D
  | .int i, .int j => some (.int (i + j))
  | .str x, .str y => if x.length + y.length ≤ lim then some (.str (x ++ y)) else none
  | _, _ => none
def subD : D → D → Option D
  | .int i, .int j => some (.int (i - j))
  | _, _ => none
def mulD : D → D → Option D
  | .int i, .int j => if mulOk i j = true then some (.int (i * j)) else none
  | _, _ => none
def divD : D → D → Option D
  | .int i, .int j => if 0 < j ∧ j < 1073741824 then some (.int (i / j)) else none
  | _, _ => none
def modD : D → D → Option D
  | .int i, .int j => if 0 < j then some (.int (i % j)) else none
  | _, _ => none
def powD : D → D → Option D
  | .int i, .int j => if 0 ≤ j ∧ j ≤ 1000000 ∧ i.natAbs < 18446744073709551616 then some (.int (i ^ j.toNat)) else none
  | _, _ => none
def negD : D → Option D
  | .int i => some (.int (-i))
  | _ => none
/-! equality: plain data -/
mutual
def D.pl : D → Bool
  | .non | .bl _ | .int _ | .str _ => true
  | .tup l | .lst l => pls l
  | .dct _ | .obj _ _ | .ex _ _ => false
def pls : List D → Bool
  | [] => true
  | d :: ds => d.pl && pls ds
end
mutual
def D.dp : D → Nat
  | .tup l | .lst l => dps l + 1
  | _ => 0
def dps : List D → Nat
  | [] => 0
  | d :: ds => max d.dp (dps ds)
end
mutual
def eqB : D → D → Bool
  | .non, .non => true
  | .bl a, .bl b => a == b
  | .bl a, .int j => (if a then 1 else 0) == j
  | .int i, .bl b => i == (if b then 1 else 0)
  | .int i, .int j => i == j
  | .str x, .str y => x == y
  | .lst xs, .lst ys => eqBs xs ys
  | .tup xs, .tup ys => eqBs xs ys
  | _, _ => false
def eqBs : List D → List D → Bool
  | [], [] => true
  | x :: xs, y :: ys => eqB x y && eqBs xs ys
  | _, _ => false
end
def cmpOk (a b : D) : Bool := a.pl && b.pl && (decide (a.dp ≤ 50) || decide (b.dp ≤ 50))
def eqD (a b : D) : Option D := if cmpOk a b = true then some (.bl (eqB a b)) else none
def neD (a b : D) : Option D := if cmpOk a b = true then some (.bl (!eqB a b)) else none
def ltD : D → D → Option D
  | .int i, .int j => some (.bl (decide (i < j)))
  | .str x, .str y => some (.bl (decide (x < y)))
  | _, _ => none
def gtD : D → D → Option D
  | .int i, .int j => some (.bl (decide (j < i)))
  | .str x, .str y => some (.bl (decide (y < x)))
  | _, _ => none
def geD : D → D → Option D
  | .int i, .int j => some (.bl (decide (j ≤ i)))
  | _, _ => none
def isNone : D → Bool
  | .non => true
  | _ => false
def isD : D → D → Option D
  | a, .non => some (.bl (isNone a))
  | _, _ => none
def isntD : D → D → Option D
  | a, .non => some (.bl (!isNone a))
  | _, _ => none
/-- x += y of ints -/
def addI : D → D → Option D
  | .int i, .int j => some (.int (i + j))
  | _, _ => none
/-- x in y: a sign in a text; among the items of a list, a tuple -/
def inB : D → D → Option Bool
  | .str [k], .str y => some (decide (k ∈ y))
  | x, .lst l => if x.pl && pls l && decide (x.dp ≤ 50) then some (l.any fun y => eqB y x) else none
  | x, .tup l => if x.pl && pls l && decide (x.dp ≤ 50) then some (l.any fun y => eqB y x) else none
  | _, _ => none
def inD (x y : D) : Option D := (inB x y).map D.bl
def ninD (x y : D) : Option D := (inB x y).map fun b => D.bl (!b)
def ixD : D → D → Option D
  | .lst l, .int i => getI l i
  | .tup l, .int i => getI l i
  | .str x, .int i => (getI x i).map fun k => .str [k]
  | _, _ => none
def cutI (n d : Nat) : Option Int → Nat
  | none => d
  | some v => if v < 0 then (v + (n : Int)).toNat else min v.toNat n
def cut {α : Type} (l : List α) (lo hi : Option Int) : List α := (l.drop (cutI l.length 0 lo)).take (cutI l.length l.length hi - cutI l.length 0 lo)
/-- built-ins by values -/
def slS : D → Option Int → Option Int → Option D
  | .str x, lo, hi => some (.str (cut x lo hi))
  | _, _, _ => none
def slL : D → Option Int → Option Int → Option (List D)
  | .lst l, lo, hi => some (cut l lo hi)
  | _, _, _ => none
def keyD : D → Option Ky
  | .int i => some (.i i)
  | .str x => some (.s x)
  | _ => none
def lookK : List (Ky × D) → Ky → Option D
  | [], _ => none
  | (k, d) :: r, q => if q = k then some d else lookK r q
/-- isinstance with a built-in class -/
inductive Ty where
  | str | int | bool | list | tuple | dict
  deriving DecidableEq
def isTy : Ty → D → Option Bool
  | .str, .str _ => some true
  | .int, .int _ => some true
  | .int, .bl _ => some true
  | .bool, .bl _ => some true
  | .list, .lst _ => some true
  | .tuple, .tup _ => some true
  | .dict, .dct _ => some true
  | _, .obj _ _ => none
  | _, .ex _ _ => none
  | _, _ => some false
def isiD (t : Ty) (d : D) : Option D := (isTy t d).map D.bl
/-- what is walked -/
def itL : D → Option (List D)
  | .lst l => some l
  | _ => none
def itT : D → Option (List D)
  | .tup l => some l
  | _ => none
def itS : D → Option (List D)
  | .str x => some (x.map fun k => .str [k])
  | _ => none
def enumF : Nat → List D → List D
  | _, [] => []
  | n, d :: ds => .tup [.int n, d] :: enumF (n + 1) ds
def itEL : D → Option (List D)
  | .lst l => some (enumF 0 l)
  | _ => none
def itES : D → Option (List D)
  | .str x => some (enumF 0 (x.map fun k => .str [k]))
  | _ => none
def rngF (lo : Int) : Nat → List D
  | 0 => []
  | n + 1 => .int lo :: rngF (lo + 1) n
def itR1 : D → Option (List D)
  | .int j => if -4611686018427387904 ≤ j ∧ j < 4611686018427387904 then some (rngF 0 j.toNat) else none
  | _ => none
def lenD : List D → Option D
  | [.str x] => some (.int x.length)
  | [.lst l] => some (.int l.length)
  | [.tup l] => some (.int l.length)
  | _ => none
def intD : List D → Option D
  | [.int i] => some (.int i)
  | [.bl b] => some (.int (if b then 1 else 0))
  | _ => none
def absD : List D → Option D
  | [.int i] => some (.int (if i < 0 then -i else i))
  | _ => none
def max2D : List D → Option D
  | [.int i, .int j] => some (.int (if j > i then j else i))
  | _ => none
def min2D : List D → Option D
  | [.int i, .int j] => some (.int (if j < i then j else i))
  | _ => none
def listL : List D → Option (List D)
  | [.lst l] => some l
  | [.tup l] => some l
  | _ => none
def strsOf : List D → Option (List (List Nat))
  | [] => some []
  | .str x :: r => (strsOf r).map (x :: ·)
  | _ :: _ => none
def joinN (s : List Nat) : List (List Nat) → List Nat
  | [] => []
  | [p] => p
  | p :: q :: r => p ++ (s ++ joinN s (q :: r))
def joinD : D → D → Option D
  | .str s, .lst l => (strsOf l).bind fun xs => if (xs.map List.length).sum + xs.length * s.length ≤ lim then some (.str (joinN s xs)) else none
  | .str s, .tup l => (strsOf l).bind fun xs => if (xs.map List.length).sum + xs.length * s.length ≤ lim then some (.str (joinN s xs)) else none
  | _, _ => none
def catL : D → D → Option (List D)
  | .lst a, .lst b => if a.length + b.length ≤ lim then some (a ++ b) else none
  | _, _ => none
end F
end

section
set_option autoImplicit false
set_option Elab.async false
set_option linter.all false
set_option maxRecDepth 100000
/-! F layer, part B: data in the abstract heap. -/
namespace F
open PySem PySem.Spec PyProof.Rows L2
abbrev St := L2.St
structure Cn where
  K : PySem.W.Frag
  cls : Nat → Addr
  fld : Nat → List Str
  tabs : List (Addr × Option Str)
  ex : Nat → D → V → Hp → Prop
  exM : ∀ (k : Nat) (d : D) (v : V) (H H' : Hp), Same H H' → ex k d v H → ex k d v H'
  exR : ∀ (k : Nat) (d : D) (v : V) (H : Hp), ex k d v H → ∃ a, v = .ref a
def sS (x : List Nat) : Str := ⟨x.toArray⟩
def kyK : Ky → Key
  | .i n => .inl n
  | .s x => .inr (sS x)
mutual
def Dat (c : Cn) (H : Hp) : D → V → Prop
  | .non, v => v = .non
  | .bl b, v => v = .bl b
  | .int i, v => v = .int i
  | .str x, v => v = .str (sS x) ∧ x.length ≤ lim
  | .tup l, v => l.length ≤ lim ∧ ∃ a vs, v = .ref a ∧ SqT c.K H a vs ∧ Dats c H l vs
  | .lst l, v => l.length ≤ lim ∧ ∃ a vs, v = .ref a ∧ SqL c.K H a vs ∧ Dats c H l vs
  | .dct l, v => l.length ≤ lim ∧ ∃ a kvs, v = .ref a ∧ Rd H a (.dK kvs) ∧ DatK c H l kvs
  | .obj k l, v => ∃ a dx fs, v = .ref a ∧ H a = some (.ins (c.cls k) dx fs) ∧ fs.map (·.1) = (c.fld k).take l.length ∧ Dats c H l (fs.map (·.2))
  | .ex k d, v => c.ex k d v H
def Dats (c : Cn) (H : Hp) : List D → List V → Prop
  | [], vs => vs = []
  | d :: ds, vs => ∃ v r, vs = v :: r ∧ Dat c H d v ∧ Dats c H ds r
def DatK (c : Cn) (H : Hp) : List (Ky × D) → List (Key × V) → Prop
  | [], kvs => kvs = []
  | (k, d) :: r, kvs => ∃ v s, kvs = (kyK k, v) :: s ∧ Dat c H d v ∧ DatK c H r s
end
theorem Rd.same {H H' : Hp} {a : Addr} {u : HO} (e : Same H H') (h : Rd H a u) : Rd H' a u := h.elim (fun h => .inl (e _ _ h)) fun ⟨o, h⟩ => .inr ⟨o, e _ _ h⟩
theorem SqL.same {K : PySem.W.Frag} {H H' : Hp} {a : Addr} {xs : List V} (e : Same H H') (h : SqL K H a xs) : SqL K H' a xs := e.seq h
theorem SqT.same {K : PySem.W.Frag} {H H' : Hp} {a : Addr} {xs : List V} (e : Same H H') (h : SqT K H a xs) : SqT K H' a xs := by
  rcases h with (h | ⟨o, h⟩) | h
  · exact .inl (.inl (e _ _ h))
  · exact .inl (.inr ⟨o, e _ _ h⟩)
  · exact .inr h
section
variable {c : Cn} {H H' : Hp}
mutual
theorem Dat.mono (e : Same H H') : ∀ (d : D) (v : V), Dat c H d v → Dat c H' d v
  | .non, _, h => h
  | .bl _, _, h => h
  | .int _, _, h => h
  | .str _, _, h => h
  | .tup l, _, ⟨hl, a, vs, h1, h2, h3⟩ => ⟨hl, a, vs, h1, SqT.same e h2, Dats.mono e l vs h3⟩
  | .lst l, _, ⟨hl, a, vs, h1, h2, h3⟩ => ⟨hl, a, vs, h1, SqL.same e h2, Dats.mono e l vs h3⟩
  | .dct l, _, ⟨hl, a, kvs, h1, h2, h3⟩ => ⟨hl, a, kvs, h1, Rd.same e h2, DatK.mono e l kvs h3⟩
  | .obj k l, _, ⟨a, dx, fs, h1, h2, h3, h4⟩ => ⟨a, dx, fs, h1, e _ _ h2, h3, Dats.mono e l _ h4⟩
  | .ex k d, _, h => c.exM k d _ _ _ e h
theorem Dats.mono (e : Same H H') : ∀ (l : List D) (vs : List V), Dats c H l vs → Dats c H' l vs
  | [], _, h => h
  | d :: ds, _, ⟨v, r, h1, h2, h3⟩ => ⟨v, r, h1, Dat.mono e d v h2, Dats.mono e ds r h3⟩
theorem DatK.mono (e : Same H H') : ∀ (l : List (Ky × D)) (kvs : List (Key × V)), DatK c H l kvs → DatK c H' l kvs
  | [], _, h => h
  | (k, d) :: r, _, ⟨v, s, h1, h2, h3⟩ => ⟨v, s, h1, Dat.mono e d v h2, DatK.mono e r s h3⟩
end
end
section
variable {c : Cn} {H : Hp}
theorem Dats.len : ∀ {l : List D} {vs : List V}, Dats c H l vs → vs.length = l.length
  | [], _, h => by
    have h : _ = _ := h
    rw [h]
    rfl
  | d :: ds, _, ⟨v, r, h1, _, h3⟩ => by
    subst h1
    rw [List.length_cons, List.length_cons, Dats.len h3]
theorem Dats.app : ∀ {l m : List D} {vs ws : List V}, Dats c H l vs → Dats c H m ws → Dats c H (l ++ m) (vs ++ ws)
  | [], m, _, ws, h, g => by
    have h : _ = _ := h
    rw [h]
    exact g
  | d :: ds, m, _, ws, ⟨v, r, h1, h2, h3⟩, g => by
    subst h1
    exact ⟨v, r ++ ws, rfl, h2, Dats.app h3 g⟩
theorem Dats.one {d : D} {v : V} (h : Dat c H d v) : Dats c H [d] [v] := ⟨v, [], rfl, h, rfl⟩
theorem Dats.get : ∀ {l : List D} {vs : List V} {i : Nat} {d : D}, Dats c H l vs → l[i]? = some d → ∃ v, vs[i]? = some v ∧ Dat c H d v
  | [], _, _, _, _, e => by simp at e
  | d :: ds, _, 0, x, ⟨v, r, h1, h2, h3⟩, e => by
    subst h1
    simp at e
    subst e
    exact ⟨v, rfl, h2⟩
  | d :: ds, _, i + 1, x, ⟨v, r, h1, h2, h3⟩, e => by
    subst h1
    obtain ⟨w, a, b⟩ := Dats.get (i := i) h3 (by simpa using e)
    exact ⟨w, by simpa using a, b⟩
theorem Dats.set {d : D} {v : V} (h : Dat c H d v) : ∀ {l : List D} {vs : List V} (i : Nat), Dats c H l vs → Dats c H (l.set i d) (vs.set i v)
  | [], _, _, g => by
    have g : _ = _ := g
    rw [g]
    rfl
  | x :: ds, _, 0, ⟨w, r, h1, h2, h3⟩ => by
    subst h1
    exact ⟨v, r, rfl, h, h3⟩
  | x :: ds, _, i + 1, ⟨w, r, h1, h2, h3⟩ => by
    subst h1
    exact ⟨w, r.set i v, rfl, h2, Dats.set h i h3⟩
theorem Dats.take : ∀ {l : List D} {vs : List V} (n : Nat), Dats c H l vs → Dats c H (l.take n) (vs.take n)
  | _, _, 0, _ => by simp only [List.take_zero]; rfl
  | [], _, n + 1, g => by
    have g : _ = _ := g
    rw [g]
    rfl
  | x :: ds, _, n + 1, ⟨w, r, h1, h2, h3⟩ => by
    subst h1
    exact ⟨w, r.take n, rfl, h2, Dats.take n h3⟩
theorem Dats.drop : ∀ {l : List D} {vs : List V} (n : Nat), Dats c H l vs → Dats c H (l.drop n) (vs.drop n)
  | _, _, 0, g => by simpa using g
  | [], _, n + 1, g => by
    have g : _ = _ := g
    rw [g]
    rfl
  | x :: ds, _, n + 1, ⟨w, r, h1, h2, h3⟩ => by
    subst h1
    exact Dats.drop n h3
end
/-! ### a thing of one's own: its addresses -/
mutual
def OwnR (c : Cn) (H0 H : Hp) : O → V → List Addr → Prop
  | .sh d, v, as => as = [] ∧ Dat c H0 d v
  | .fl l, v, as => l.length ≤ lim ∧ ∃ a vs, v = .ref a ∧ as = [a] ∧ H a = some (.lst vs) ∧ Dats c H0 l vs
  | .fd l, v, as => l.length ≤ lim ∧ ∃ a kvs, v = .ref a ∧ as = [a] ∧ H a = some (.dK kvs) ∧ DatK c H0 l kvs
  | .fo k os, v, as => ∃ a dx fs bs, v = .ref a ∧ as = a :: dx :: bs ∧ H a = some (.ins (c.cls k) dx fs) ∧ H dx = some (.own a) ∧ fs.map (·.1) = (c.fld k).take os.length ∧ OwnRs c H0 H os (fs.map (·.2)) bs
def OwnRs (c : Cn) (H0 H : Hp) : List O → List V → List Addr → Prop
  | [], vs, as => vs = [] ∧ as = []
  | o :: os, vs, as => ∃ v r bs cs, vs = v :: r ∧ as = bs ++ cs ∧ OwnR c H0 H o v bs ∧ OwnRs c H0 H os r cs
end
/-- H0 with what stands in H at as -/
def addF (H0 H : Hp) (as : List Addr) : Hp := fun b => if b ∈ as then H b else H0 b
theorem addF_in {H0 H : Hp} {as : List Addr} {b : Addr} (h : b ∈ as) : addF H0 H as b = H b := if_pos h
theorem addF_out {H0 H : Hp} {as : List Addr} {b : Addr} (h : b ∉ as) : addF H0 H as b = H0 b := if_neg h
section
variable {c : Cn} {H0 H1 H H' : Hp}
mutual
theorem OwnR.mono (e : Same H0 H1) : ∀ (o : O) (v : V) (as : List Addr), (∀ a ∈ as, H' a = H a) → OwnR c H0 H o v as → OwnR c H1 H' o v as
  | .sh d, _, _, _, ⟨h1, h2⟩ => ⟨h1, Dat.mono e d _ h2⟩
  | .fl l, _, _, k, ⟨hl, a, vs, h1, h2, h3, h4⟩ => ⟨hl, a, vs, h1, h2, by rw [k a (by rw [h2]; simp)]; exact h3, Dats.mono e l vs h4⟩
  | .fd l, _, _, k, ⟨hl, a, vs, h1, h2, h3, h4⟩ => ⟨hl, a, vs, h1, h2, by rw [k a (by rw [h2]; simp)]; exact h3, DatK.mono e l vs h4⟩
  | .fo q os, _, _, k, ⟨a, dx, fs, bs, h1, h2, h3, h4, h5, h6⟩ => ⟨a, dx, fs, bs, h1, h2, by rw [k a (by rw [h2]; simp)]; exact h3, by rw [k dx (by rw [h2]; simp)]; exact h4, h5,
      OwnRs.mono e os _ bs (fun b hb => k b (by rw [h2]; simp [hb])) h6⟩
theorem OwnRs.mono (e : Same H0 H1) : ∀ (os : List O) (vs : List V) (as : List Addr), (∀ a ∈ as, H' a = H a) → OwnRs c H0 H os vs as → OwnRs c H1 H' os vs as
  | [], _, _, _, h => h
  | o :: os, _, _, k, ⟨v, r, bs, cs, h1, h2, h3, h4⟩ => ⟨v, r, bs, cs, h1, h2, OwnR.mono e o v bs (fun a ha => k a (by rw [h2]; exact List.mem_append_left _ ha)) h3, OwnRs.mono e os r cs (fun a ha => k a (by rw [h2]; exact List.mem_append_right _ ha)) h4⟩
end
mutual
theorem OwnR.here : ∀ (o : O) (v : V) (as : List Addr), OwnR c H0 H o v as → ∀ a ∈ as, ∃ x, H a = some x
  | .sh d, _, _, ⟨h1, _⟩, a, ha => by rw [h1] at ha; cases ha
  | .fl l, _, _, ⟨_, b, vs, _, h2, h3, _⟩, a, ha => by
    rw [h2] at ha
    rw [List.mem_singleton.mp ha]
    exact ⟨_, h3⟩
  | .fd l, _, _, ⟨_, b, vs, _, h2, h3, _⟩, a, ha => by
    rw [h2] at ha
    rw [List.mem_singleton.mp ha]
    exact ⟨_, h3⟩
  | .fo q os, _, _, ⟨b, dx, fs, bs, _, h2, h3, h4, _, h6⟩, a, ha => by
    rw [h2] at ha
    rcases List.mem_cons.mp ha with e | ha
    · rw [e]; exact ⟨_, h3⟩
    · rcases List.mem_cons.mp ha with e | ha
      · rw [e]; exact ⟨_, h4⟩
      · exact OwnRs.here os _ bs h6 a ha
theorem OwnRs.here : ∀ (os : List O) (vs : List V) (as : List Addr), OwnRs c H0 H os vs as → ∀ a ∈ as, ∃ x, H a = some x
  | [], _, _, ⟨_, h⟩, a, ha => by rw [h] at ha; cases ha
  | o :: os, _, _, ⟨v, r, bs, cs, _, h2, h3, h4⟩, a, ha => by
    rw [h2] at ha
    rcases List.mem_append.mp ha with ha | ha
    · exact OwnR.here o v bs h3 a ha
    · exact OwnRs.here os r cs h4 a ha
end
mutual
/-- kept from now on: data over H0 with its addresses -/
theorem OwnR.dat : ∀ (o : O) (v : V) (as : List Addr), OwnR c H0 H o v as → Same H0 H1 → (∀ a ∈ as, H1 a = H a) → Dat c H1 o.frz v
  | .sh d, v, _, ⟨_, h⟩, e, _ => Dat.mono e d v h
  | .fl l, v, _, ⟨hl, a, vs, h1, h2, h3, h4⟩, e, k => ⟨hl, a, vs, h1, SqL.of (by rw [k a (by rw [h2]; simp)]; exact h3), Dats.mono e l vs h4⟩
  | .fd l, v, _, ⟨hl, a, vs, h1, h2, h3, h4⟩, e, k => ⟨hl, a, vs, h1, .inl (by rw [k a (by rw [h2]; simp)]; exact h3), DatK.mono e l vs h4⟩
  | .fo q os, v, _, ⟨a, dx, fs, bs, h1, h2, h3, h4, h5, h6⟩, e, k => ⟨a, dx, fs, h1, (by rw [k a (by rw [h2]; simp)]; exact h3), by rw [h5, OwnRs.frlen os],
      OwnRs.dat os _ bs h6 e fun b hb => k b (by rw [h2]; simp [hb])⟩
theorem OwnRs.dat : ∀ (os : List O) (vs : List V) (as : List Addr), OwnRs c H0 H os vs as → Same H0 H1 → (∀ a ∈ as, H1 a = H a) → Dats c H1 (frzs os) vs
  | [], _, _, ⟨h, _⟩, _, _ => h
  | o :: os, _, _, ⟨v, r, bs, cs, h1, h2, h3, h4⟩, e, k => ⟨v, r, h1, OwnR.dat o v bs h3 e fun a ha => k a (by rw [h2]; exact List.mem_append_left _ ha), OwnRs.dat os r cs h4 e fun a ha => k a (by rw [h2]; exact List.mem_append_right _ ha)⟩
theorem OwnRs.frlen : ∀ os : List O, os.length = (frzs os).length
  | [] => rfl
  | o :: os => by
    show os.length + 1 = (frzs os).length + 1
    rw [OwnRs.frlen os]
end
end
/-! ### tables of code objects -/
def TabAt (H0 H : Hp) (p : Addr × Option Str) : Prop := ∃ ps : Array Value, H p.1 = some (.tbl ps) ∧ TriplesOk ps.toList ∧ ∀ q, p.2 = some q → ∀ (pos : Pos) (cv : Value), codeAmong pos ps.toList = some cv → ∃ a, cv = .ref a ∧ H0 a = some (LamX.CodeO a q)
structure TabR (c : Cn) (H0 Fr H : Hp) (as : Nat → List Addr) : Prop where
  at_ : ∀ p ∈ c.tabs, TabAt H0 H p
  n0 : ∀ p ∈ c.tabs, H0 p.1 = none
  nF : ∀ p ∈ c.tabs, Fr p.1 = none
  na : ∀ p ∈ c.tabs, ∀ i, p.1 ∉ as i
theorem TabAt.mono {H0 H1 H H' : Hp} {p : Addr × Option Str} (s : Same H0 H1) (e : H' p.1 = H p.1) (t : TabAt H0 H p) : TabAt H1 H' p := by
  obtain ⟨ps, h1, h2, h3⟩ := t
  refine ⟨ps, e.trans h1, h2, fun q hq pos cv hc => ?_⟩
  obtain ⟨a, e1, e2⟩ := h3 q hq pos cv hc
  exact ⟨a, e1, s _ _ e2⟩
theorem TabAt.ne {H0 H : Hp} {p : Addr × Option Str} {b : Addr} (t : TabAt H0 H p) (h : H b = none) : p.1 ≠ b := by
  obtain ⟨ps, h1, _, _⟩ := t
  exact ne_of_none h1 h
/-- a table's place is none of one's own things -/
theorem TabR.ne {c : Cn} {H0 Fr H : Hp} {as : Nat → List Addr} (t : TabR c H0 Fr H as) {p : Addr × Option Str} (hp : p ∈ c.tabs) {b : Addr} (h : H b = none) : p.1 ≠ b := (t.at_ p hp).ne h
theorem TabR.ne_as {c : Cn} {H0 Fr H : Hp} {as : Nat → List Addr} (t : TabR c H0 Fr H as) {p : Addr × Option Str} (hp : p ∈ c.tabs) {b : Addr} {i : Nat} (h : b ∈ as i) : p.1 ≠ b := fun z => t.na p hp i (z ▸ h)
theorem TabR.re {c : Cn} {H0 H1 Fr Fr' H H' : Hp} {as as' : Nat → List Addr} (t : TabR c H0 Fr H as) (s : Same H0 H1) (eH : ∀ p ∈ c.tabs, H' p.1 = H p.1) (e0 : ∀ p ∈ c.tabs, H1 p.1 = none) (eF : ∀ p ∈ c.tabs, Fr' p.1 = none) (ea : ∀ p ∈ c.tabs, ∀ i, p.1 ∉ as' i) : TabR c H1 Fr' H' as' :=
  ⟨fun p hp => (t.at_ p hp).mono s (eH p hp), e0, eF, ea⟩
theorem TabR.sub {c : Cn} {H0 Fr H : Hp} {as as' : Nat → List Addr} (t : TabR c H0 Fr H as) (h : ∀ i a, a ∈ as' i → ∃ j, a ∈ as j) : TabR c H0 Fr H as' :=
  ⟨t.at_, t.n0, t.nF, fun p hp i z => let ⟨j, q⟩ := h i _ z; t.na p hp j q⟩
/-! ### the names' things -/
structure Rp (c : Cn) (H0 Fr H : Hp) (σ : St) (env : Env) (as : Nat → List Addr) : Prop where
  len : env.length = σ.length
  sub : Same H0 H
  fr : ∀ b o, Fr b = some o → H b = some o ∧ H0 b = none
  own : ∀ i o, slot env i = some o → ∃ v, σ[i]? = some (some v) ∧ OwnR c H0 H o v (as i)
  off : ∀ i, ∀ a ∈ as i, H0 a = none ∧ Fr a = none
  sep : ∀ i j a, a ∈ as i → a ∈ as j → i = j
  nd : ∀ i, (as i).Nodup
  emp : ∀ i, slot env i = none → as i = []
  tab : TabR c H0 Fr H as
theorem slot_lt {e : Env} {i : Nat} {o : O} (h : slot e i = some o) : i < e.length := by
  unfold slot at h
  split at h
  · rename_i q
    exact (List.getElem?_eq_some_iff.mp q).1
  · cases h
theorem slot_set {e : Env} {i j : Nat} {x : Option O} (h : i < e.length) : slot (e.set i x) j = if j = i then x else slot e j := by
  unfold slot
  by_cases q : j = i
  · subst q
    rw [List.getElem?_set_self h, if_pos rfl]
    cases x <;> rfl
  · rw [List.getElem?_set_ne (Ne.symm q), if_neg q]
theorem slot_set_ge {e : Env} {i : Nat} {x : Option O} (h : ¬ i < e.length) : e.set i x = e := List.set_eq_of_length_le (Nat.le_of_not_lt h)
theorem slot_set_ne {e : Env} {i j : Nat} {x : Option O} (h : j ≠ i) : slot (e.set i x) j = slot e j := by
  unfold slot
  rw [List.getElem?_set_ne (Ne.symm h)]
theorem slot_none {e : Env} {i j : Nat} {o : O} (h : slot (e.set i none) j = some o) : j ≠ i ∧ slot e j = some o := by
  by_cases hl : i < e.length
  · rw [slot_set hl] at h
    split at h
    · cases h
    · exact ⟨by assumption, h⟩
  · rw [slot_set_ge hl] at h
    exact ⟨fun q => hl (q ▸ slot_lt h), h⟩
section
variable {c : Cn} {H0 Fr H : Hp} {σ : St} {env : Env} {as : Nat → List Addr}
theorem Rp.mem (r : Rp c H0 Fr H σ env as) {i : Nat} {a : Addr} (h : a ∈ as i) : ∃ o, slot env i = some o := by
  cases q : slot env i with
  | none =>
    rw [r.emp i q] at h
    cases h
  | some o => exact ⟨o, rfl⟩
theorem Rp.here (r : Rp c H0 Fr H σ env as) {i : Nat} {a : Addr} (h : a ∈ as i) : ∃ x, H a = some x := by
  obtain ⟨o, e⟩ := r.mem h
  obtain ⟨v, _, q⟩ := r.own i o e
  exact OwnR.here o v _ q a h
/-- what a name holds, read -/
theorem Rp.peek (r : Rp c H0 Fr H σ env as) {i : Nat} {o : O} (e : slot env i = some o) : ∃ v, σ[i]? = some (some v) ∧ Dat c H o.frz v := by
  obtain ⟨v, h1, h2⟩ := r.own i o e
  exact ⟨v, h1, OwnR.dat o v _ h2 r.sub fun _ _ => rfl⟩
theorem same_addF' {bs : List Addr} (h : ∀ a ∈ bs, H0 a = none) : Same H0 (addF H0 H bs) := fun b o e => by
  rw [addF_out (fun q => by rw [h b q] at e; cases e)]
  exact e
/-- another as at one place -/
def setA (as : Nat → List Addr) (i : Nat) (bs : List Addr) : Nat → List Addr := fun j => if j = i then bs else as j
theorem setA_same {i : Nat} {bs : List Addr} : setA as i bs i = bs := if_pos rfl
theorem setA_ne {i j : Nat} {bs : List Addr} (h : j ≠ i) : setA as i bs j = as j := if_neg h
theorem setA_mem {i j : Nat} {a : Addr} (h : a ∈ setA as i [] j) : j ≠ i ∧ a ∈ as j := by
  unfold setA at h
  split at h
  · cases h
  · exact ⟨by assumption, h⟩
/-- a name's thing is kept from now on as shared data -/
theorem Rp.freeze (r : Rp c H0 Fr H σ env as) {i : Nat} {o : O} (e : slot env i = some o) : ∃ H1 v, Same H0 H1 ∧ Rp c H1 Fr H σ (env.set i (some (.sh o.frz))) (setA as i []) ∧ σ[i]? = some (some v) ∧ Dat c H1 o.frz v := by
  obtain ⟨v, h1, h2⟩ := r.own i o e
  have hl := slot_lt e
  have s1 : Same H0 (addF H0 H (as i)) := same_addF' fun a ha => (r.off i a ha).1
  have hd : Dat c (addF H0 H (as i)) o.frz v := OwnR.dat o v _ h2 s1 fun a ha => addF_in ha
  refine ⟨addF H0 H (as i), v, s1, ⟨by simpa using r.len, ?_, ?_, ?_, ?_, ?_, ?_, ?_, r.tab.re s1 (fun _ _ => rfl) (fun p hp => by rw [addF_out (r.tab.na p hp i)]; exact r.tab.n0 p hp) r.tab.nF fun p hp j z => r.tab.na p hp j (setA_mem z).2⟩, h1, hd⟩
  · intro b x hb
    by_cases q : b ∈ as i
    · rw [addF_in q] at hb
      exact hb
    · rw [addF_out q] at hb
      exact r.sub b x hb
  · intro b x hb
    refine ⟨(r.fr b x hb).1, ?_⟩
    rw [addF_out fun q => by rw [(r.off i b q).2] at hb; cases hb]
    exact (r.fr b x hb).2
  · intro j o' ej
    rw [slot_set hl] at ej
    by_cases q : j = i
    · rw [if_pos q] at ej
      cases ej
      subst q
      exact ⟨v, h1, by rw [setA_same]; exact ⟨rfl, hd⟩⟩
    · rw [if_neg q] at ej
      obtain ⟨v', g1, g2⟩ := r.own j o' ej
      exact ⟨v', g1, by rw [setA_ne q]; exact OwnR.mono s1 o' v' _ (fun _ _ => rfl) g2⟩
  · intro j a ha
    obtain ⟨hj, ha⟩ := setA_mem ha
    refine ⟨?_, (r.off j a ha).2⟩
    rw [addF_out fun q => hj (r.sep j i a ha q)]
    exact (r.off j a ha).1
  · intro j k a ha hk
    exact r.sep j k a (setA_mem ha).2 (setA_mem hk).2
  · intro j
    by_cases q : j = i
    · rw [q, setA_same]; exact List.nodup_nil
    · rw [setA_ne q]; exact r.nd j
  · intro j ej
    by_cases q : j = i
    · rw [q, setA_same]
    · rw [setA_ne q]
      rw [slot_set hl, if_neg q] at ej
      exact r.emp j ej
/-- a new thing that is shared -/
theorem Rp.alloc (r : Rp c H0 Fr H σ env as) {p : Addr} {x : HO} (hp : H p = none) : Same H0 (upd H0 p x) ∧ Rp c (upd H0 p x) Fr (upd H p x) σ env as := by
  have h0 : H0 p = none := by
    cases q : H0 p with
    | none => rfl
    | some y =>
      rw [r.sub p y q] at hp
      cases hp
  have s1 : Same H0 (upd H0 p x) := fun b o e => by rw [upd_ne (ne_of_none e h0)]; exact e
  refine ⟨s1, r.len, ?_, ?_, ?_, ?_, r.sep, r.nd, r.emp, r.tab.re s1 (fun p q => upd_ne (r.tab.ne q hp)) (fun p q => by rw [upd_ne (r.tab.ne q hp)]; exact r.tab.n0 p q) r.tab.nF r.tab.na⟩
  · intro b o e
    by_cases q : b = p
    · subst q
      rw [upd_same] at e ⊢
      exact e
    · rw [upd_ne q] at e ⊢
      exact r.sub b o e
  · intro b o e
    have q : b ≠ p := ne_of_none (r.fr b o e).1 hp
    rw [upd_ne q, upd_ne q]
    exact r.fr b o e
  · intro i o e
    obtain ⟨v, h1, h2⟩ := r.own i o e
    refine ⟨v, h1, OwnR.mono s1 o v _ (fun a ha => ?_) h2⟩
    obtain ⟨y, hy⟩ := r.here ha
    rw [upd_ne (ne_of_none hy hp)]
  · intro i a ha
    obtain ⟨y, hy⟩ := r.here ha
    rw [upd_ne (ne_of_none hy hp)]
    exact r.off i a ha
/-- a name is forgotten; what it alone held goes to the frame of the proof or away -/
theorem Rp.drop (r : Rp c H0 Fr H σ env as) (i : Nat) : Rp c H0 Fr H σ (env.set i none) (setA as i []) := by
  refine ⟨by simpa using r.len, r.sub, r.fr, ?_, ?_, ?_, ?_, ?_, r.tab.sub fun i a z => ⟨i, (setA_mem z).2⟩⟩
  · intro j o e
    obtain ⟨hj, e⟩ := slot_none e
    obtain ⟨v, h1, h2⟩ := r.own j o e
    exact ⟨v, h1, by rw [setA_ne hj]; exact h2⟩
  · intro j a ha
    exact r.off j a (setA_mem ha).2
  · intro j k a ha hk
    exact r.sep j k a (setA_mem ha).2 (setA_mem hk).2
  · intro j
    by_cases q : j = i
    · rw [q, setA_same]; exact List.nodup_nil
    · rw [setA_ne q]; exact r.nd j
  · intro j e
    by_cases q : j = i
    · rw [q, setA_same]
    · rw [setA_ne q]
      rw [slot_set_ne q] at e
      exact r.emp j e
/-- a name gets shared data -/
theorem Rp.setSh (r : Rp c H0 Fr H σ env as) {i : Nat} {d : D} {v : V} (h : Dat c H0 d v) : Rp c H0 Fr H (σ.set i (some v)) (env.set i (some (.sh d))) (setA as i []) := by
  refine ⟨by simpa using r.len, r.sub, r.fr, ?_, ?_, ?_, ?_, ?_, r.tab.sub fun i a z => ⟨i, (setA_mem z).2⟩⟩
  · intro j o e
    by_cases hl : i < env.length
    · rw [slot_set hl] at e
      by_cases q : j = i
      · rw [if_pos q] at e
        cases e
        subst q
        exact ⟨v, List.getElem?_set_self (by rw [← r.len]; exact hl), by rw [setA_same]; exact ⟨rfl, h⟩⟩
      · rw [if_neg q] at e
        obtain ⟨w, h1, h2⟩ := r.own j o e
        exact ⟨w, by rw [List.getElem?_set_ne (Ne.symm q)]; exact h1, by rw [setA_ne q]; exact h2⟩
    · rw [slot_set_ge hl] at e
      have q : j ≠ i := fun q => hl (q ▸ slot_lt e)
      obtain ⟨w, h1, h2⟩ := r.own j o e
      exact ⟨w, by rw [List.getElem?_set_ne (Ne.symm q)]; exact h1, by rw [setA_ne q]; exact h2⟩
  · intro j a ha
    exact r.off j a (setA_mem ha).2
  · intro j k a ha hk
    exact r.sep j k a (setA_mem ha).2 (setA_mem hk).2
  · intro j
    by_cases q : j = i
    · rw [q, setA_same]; exact List.nodup_nil
    · rw [setA_ne q]; exact r.nd j
  · intro j e
    by_cases q : j = i
    · rw [q, setA_same]
    · rw [setA_ne q]
      rw [slot_set_ne q] at e
      exact r.emp j e
/-- the proof's frame: other slots of the machine's list of names -/
theorem Rp.other (r : Rp c H0 Fr H σ env as) {σ' : St} (hl : σ'.length = σ.length) (h : ∀ i o, slot env i = some o → σ'[i]? = σ[i]?) : Rp c H0 Fr H σ' env as :=
  ⟨by rw [hl]; exact r.len, r.sub, r.fr, fun i o e => by rw [h i o e]; exact r.own i o e, r.off, r.sep, r.nd, r.emp, r.tab⟩
/-- the heap grows elsewhere: new addresses alone -/
theorem Rp.heap (r : Rp c H0 Fr H σ env as) {H' : Hp} (h : Same H H') : Rp c H0 Fr H' σ env as := by
  refine ⟨r.len, fun b o e => h b o (r.sub b o e), fun b o e => ⟨h b o (r.fr b o e).1, (r.fr b o e).2⟩, fun i o e => ?_, r.off, r.sep, r.nd, r.emp, r.tab.re (Same.refl _) (fun p q => let ⟨ps, e, _⟩ := r.tab.at_ p q; (h _ _ e).trans e.symm) r.tab.n0 r.tab.nF r.tab.na⟩
  obtain ⟨v, h1, h2⟩ := r.own i o e
  exact ⟨v, h1, OwnR.mono (fun _ _ z => z) o v _ (fun a ha => by
    obtain ⟨x, hx⟩ := r.here ha
    rw [hx, h a x hx]) h2⟩
/-- a thing that no name holds yet: v stands for o -/
def Rp1 (c : Cn) (H0 Fr H : Hp) (σ : St) (env : Env) (v : V) (o : O) : Prop :=
  ∃ bs as, OwnR c H0 H o v bs ∧ bs.Nodup ∧ (∀ a ∈ bs, H0 a = none ∧ Fr a = none) ∧ Rp c H0 (addF Fr H bs) H σ env as
theorem addF_nil {Fr H : Hp} : addF Fr H [] = Fr := funext fun b => addF_out (by simp)
theorem Rp.sh1 (r : Rp c H0 Fr H σ env as) {d : D} {v : V} (h : Dat c H0 d v) : Rp1 c H0 Fr H σ env v (.sh d) :=
  ⟨[], as, ⟨rfl, h⟩, List.nodup_nil, by simp, by rw [addF_nil]; exact r⟩
/-- a frame that says less -/
theorem Rp.less (r : Rp c H0 Fr H σ env as) {Fr' : Hp} (h : ∀ b o, Fr' b = some o → Fr b = some o) : Rp c H0 Fr' H σ env as :=
  ⟨r.len, r.sub, fun b o e => r.fr b o (h b o e), r.own, fun i a ha => ⟨(r.off i a ha).1, by
    cases q : Fr' a with
    | none => rfl
    | some o =>
      have := h a o q
      rw [(r.off i a ha).2] at this
      cases this⟩, r.sep, r.nd, r.emp, r.tab.re (Same.refl _) (fun _ _ => rfl) r.tab.n0 (fun p q => by
    cases z : Fr' p.1 with
    | none => rfl
    | some o =>
      have := h _ _ z
      rw [r.tab.nF p q] at this
      cases this) r.tab.na⟩
theorem Rp1.rp {v : V} {o : O} (r : Rp1 c H0 Fr H σ env v o) : ∃ as, Rp c H0 Fr H σ env as := by
  obtain ⟨bs, as, h1, h2, h3, h4⟩ := r
  refine ⟨as, h4.less fun b x e => ?_⟩
  rw [addF_out fun q => by rw [(h3 b q).2] at e; cases e]
  exact e
/-- it is kept as shared data -/
theorem Rp1.freeze {v : V} {o : O} (r : Rp1 c H0 Fr H σ env v o) : ∃ H1 as, Same H0 H1 ∧ Rp c H1 Fr H σ env as ∧ Dat c H1 o.frz v := by
  obtain ⟨bs, as, h1, h2, h3, h4⟩ := r
  have s1 : Same H0 (addF H0 H bs) := same_addF' fun a ha => (h3 a ha).1
  refine ⟨addF H0 H bs, as, s1, ⟨h4.len, ?_, ?_, ?_, ?_, h4.sep, h4.nd, h4.emp, h4.tab.re s1 (fun _ _ => rfl) (fun p q => ?_) (fun p q => ?_) h4.tab.na⟩, OwnR.dat o v _ h1 s1 fun a ha => addF_in ha⟩
  · intro b x hb
    by_cases q : b ∈ bs
    · rw [addF_in q] at hb
      exact hb
    · rw [addF_out q] at hb
      exact h4.sub b x hb
  · intro b x hb
    have q : b ∉ bs := fun q => by rw [(h3 b q).2] at hb; cases hb
    rw [addF_out q]
    exact h4.fr b x (by rw [addF_out q]; exact hb)
  · intro i o' e
    obtain ⟨w, g1, g2⟩ := h4.own i o' e
    exact ⟨w, g1, OwnR.mono s1 o' w _ (fun _ _ => rfl) g2⟩
  · intro i a ha
    have q : a ∉ bs := fun q => by
      have z := (h4.off i a ha).2
      rw [addF_in q] at z
      obtain ⟨x, hx⟩ := h4.here ha
      rw [hx] at z
      cases z
    refine ⟨by rw [addF_out q]; exact (h4.off i a ha).1, ?_⟩
    have z := (h4.off i a ha).2
    rw [addF_out q] at z
    exact z
  · have z : p.1 ∉ bs := fun z => by
      have nF := h4.tab.nF p q
      rw [addF_in z] at nF
      obtain ⟨x, hx⟩ := OwnR.here o v bs h1 _ z
      rw [hx] at nF
      cases nF
    rw [addF_out z]
    exact h4.tab.n0 p q
  · have z : p.1 ∉ bs := fun z => by
      have nF := h4.tab.nF p q
      rw [addF_in z] at nF
      obtain ⟨x, hx⟩ := OwnR.here o v bs h1 _ z
      rw [hx] at nF
      cases nF
    have nF := h4.tab.nF p q
    rw [addF_out z] at nF
    exact nF
/-- a name gets it -/
theorem Rp1.set {v : V} {o : O} {i : Nat} (r : Rp1 c H0 Fr H σ env v o) : ∃ as, Rp c H0 Fr H (σ.set i (some v)) (env.set i (some o)) as := by
  obtain ⟨bs, as, h1, h2, h3, h4⟩ := r
  have out : ∀ {j a}, a ∈ as j → a ∉ bs := fun {j a} ha q => by
    have z := (h4.off j a ha).2
    rw [addF_in q] at z
    obtain ⟨x, hx⟩ := h4.here ha
    rw [hx] at z
    cases z
  by_cases hl : i < env.length
  · have tz : ∀ p ∈ c.tabs, p.1 ∉ bs ∧ Fr p.1 = none := fun p q => by
      have z : p.1 ∉ bs := fun z => by
        have nF := h4.tab.nF p q
        rw [addF_in z] at nF
        obtain ⟨x, hx⟩ := OwnR.here o v bs h1 _ z
        rw [hx] at nF
        cases nF
      have nF := h4.tab.nF p q
      rw [addF_out z] at nF
      exact ⟨z, nF⟩
    refine ⟨setA as i bs, by simpa using h4.len, h4.sub, ?_, ?_, ?_, ?_, ?_, ?_, h4.tab.re (Same.refl _) (fun _ _ => rfl) h4.tab.n0 (fun p q => (tz p q).2) fun p q j z => ?_⟩
    · intro b x e
      have q : b ∉ bs := fun q => by rw [(h3 b q).2] at e; cases e
      exact h4.fr b x (by rw [addF_out q]; exact e)
    · intro j o' e
      rw [slot_set hl] at e
      by_cases q : j = i
      · rw [if_pos q] at e
        cases e
        subst q
        exact ⟨v, List.getElem?_set_self (by rw [← h4.len]; exact hl), by rw [setA_same]; exact h1⟩
      · rw [if_neg q] at e
        obtain ⟨w, g1, g2⟩ := h4.own j o' e
        exact ⟨w, by rw [List.getElem?_set_ne (Ne.symm q)]; exact g1, by rw [setA_ne q]; exact g2⟩
    · intro j a ha
      by_cases q : j = i
      · subst q
        rw [setA_same] at ha
        exact h3 a ha
      · rw [setA_ne q] at ha
        have z := (h4.off j a ha).2
        rw [addF_out (out ha)] at z
        exact ⟨(h4.off j a ha).1, z⟩
    · intro j k a ha hk
      by_cases q : j = i
      · subst q
        rw [setA_same] at ha
        by_cases q2 : k = j
        · exact q2.symm
        · rw [setA_ne q2] at hk
          exact absurd ha (out hk)
      · rw [setA_ne q] at ha
        by_cases q2 : k = i
        · subst q2
          rw [setA_same] at hk
          exact absurd hk (out ha)
        · rw [setA_ne q2] at hk
          exact h4.sep j k a ha hk
    · intro j
      by_cases q : j = i
      · rw [q, setA_same]; exact h2
      · rw [setA_ne q]; exact h4.nd j
    · intro j e
      rw [slot_set hl] at e
      by_cases q : j = i
      · rw [if_pos q] at e
        cases e
      · rw [if_neg q] at e
        rw [setA_ne q]
        exact h4.emp j e
    · by_cases e : j = i
      · subst e
        rw [setA_same] at z
        exact (tz p q).1 z
      · rw [setA_ne e] at z
        exact h4.tab.na p q j z
  · obtain ⟨as2, h5⟩ := Rp1.rp ⟨bs, as, h1, h2, h3, h4⟩
    rw [slot_set_ge hl]
    refine ⟨as2, h5.other (by simp) fun j o' e => ?_⟩
    have hj := slot_lt e
    exact List.getElem?_set_ne fun q => hl (by omega)
/-- a new thing of one's own -/
theorem Rp.new (r : Rp c H0 Fr H σ env as) {p : Addr} {x : HO} {o : O} (hp : H p = none) (h : OwnR c H0 (upd H p x) o (.ref p) [p]) : Rp1 c H0 Fr (upd H p x) σ env (.ref p) o := by
  have h0 : H0 p = none := by
    cases q : H0 p with
    | none => rfl
    | some y =>
      rw [r.sub p y q] at hp
      cases hp
  have hF : Fr p = none := by
    cases q : Fr p with
    | none => rfl
    | some y =>
      rw [(r.fr p y q).1] at hp
      cases hp
  have sH : Same H (upd H p x) := fun b o e => by rw [upd_ne (ne_of_none e hp)]; exact e
  refine ⟨[p], as, h, by simp, fun a ha => by rw [List.mem_singleton.mp ha]; exact ⟨h0, hF⟩, ?_⟩
  have r2 := r.heap sH
  refine ⟨r2.len, r2.sub, ?_, r2.own, ?_, r2.sep, r2.nd, r2.emp, r2.tab.re (Same.refl _) (fun _ _ => rfl) r2.tab.n0 (fun a q => by rw [addF_out fun z => r.tab.ne q hp (List.mem_singleton.mp z)]; exact r2.tab.nF a q) r2.tab.na⟩
  · intro b o e
    by_cases q : b ∈ [p]
    · rw [addF_in q] at e
      rw [List.mem_singleton.mp q] at e ⊢
      exact ⟨e, h0⟩
    · rw [addF_out q] at e
      exact r2.fr b o e
  · intro i a ha
    obtain ⟨y, hy⟩ := r.here ha
    have q : a ∉ [p] := fun q => by
      rw [List.mem_singleton.mp q, hp] at hy
      cases hy
    rw [addF_out q]
    exact r2.off i a ha
/-- a name's own flat thing is changed -/
theorem Rp.mut (r : Rp c H0 Fr H σ env as) {i : Nat} {o o' : O} {a : Addr} {x : HO} (e : slot env i = some o) (ha : as i = [a]) (h : ∀ v, σ[i]? = some (some v) → OwnR c H0 H o v [a] → OwnR c H0 (upd H a x) o' v [a]) :
    Rp c H0 Fr (upd H a x) σ (env.set i (some o')) as := by
  have hl := slot_lt e
  have hm : a ∈ as i := by rw [ha]; simp
  refine ⟨by simpa using r.len, ?_, ?_, ?_, r.off, r.sep, r.nd, ?_, r.tab.re (Same.refl _) (fun p q => upd_ne (r.tab.ne_as q hm)) r.tab.n0 r.tab.nF r.tab.na⟩
  · intro b y hb
    rw [upd_ne (ne_of_none hb (r.off i a hm).1)]
    exact r.sub b y hb
  · intro b y hb
    rw [upd_ne (ne_of_none hb (r.off i a hm).2)]
    exact r.fr b y hb
  · intro j o2 ej
    rw [slot_set hl] at ej
    by_cases q : j = i
    · rw [if_pos q] at ej
      cases ej
      subst q
      obtain ⟨v, g1, g2⟩ := r.own j o e
      rw [ha] at g2
      exact ⟨v, g1, by rw [ha]; exact h v g1 g2⟩
    · rw [if_neg q] at ej
      obtain ⟨v, g1, g2⟩ := r.own j o2 ej
      exact ⟨v, g1, OwnR.mono (fun _ _ z => z) o2 v _ (fun b hb => upd_ne fun z => q (r.sep j i b hb (z ▸ hm))) g2⟩
  · intro j ej
    rw [slot_set hl] at ej
    by_cases q : j = i
    · rw [if_pos q] at ej
      cases ej
    · rw [if_neg q] at ej
      exact r.emp j ej
end
end F
end

section
set_option Elab.async false
set_option linter.all false
set_option maxRecDepth 100000
/-! F layer, part C: expressions and tests. -/
namespace F
open PySem PySem.Spec PyProof.Rows L2
/-- what is laid of classes: their addresses, their fields, an exception's field -/
structure Tb where
  cls : Nat → Addr
  fld : Nat → List Str
  xf : Nat → Str
  tabs : List (Addr × Option Str)
  ex : Nat → D → V → Hp → Prop
  exM : ∀ (k : Nat) (d : D) (v : V) (H H' : Hp), Same H H' → ex k d v H → ex k d v H'
  exR : ∀ (k : Nat) (d : D) (v : V) (H : Hp), ex k d v H → ∃ a, v = .ref a
abbrev cn (X : Cx) (t : Tb) : Cn := ⟨X.K, t.cls, t.fld, t.tabs, t.ex, t.exM, t.exR⟩
/-- how an exception of the class k with the payload p lies -/
def ExA (t : Tb) (c : Cn) (H0 H : Hp) (k : Nat) (p : D) (cls : Value) (dx : Option Addr) : Prop :=
  cls = .ref (t.cls k) ∧ ((∃ d v, dx = some d ∧ H0 d = some (.xd [(t.xf k, v)]) ∧ Dat c H0 p v) ∨ (dx = none ∧ p = .non ∧ t.xf k = Str.empty))
/-- an answer lies so -/
def RpR (c : Cn) (H0 Fr H : Hp) (σ : St) (e : Env) (v : V) : R → Prop
  | .d x => (∃ as, Rp c H0 Fr H σ e as) ∧ Dat c H0 x v
  | .sl i => (∃ as, Rp c H0 Fr H σ e as) ∧ σ[i]? = some (some v)
  | .ow o => Rp1 c H0 Fr H σ e v o
/-- the top of a thing stands in H, its parts are shared -/
def Dat1 (c : Cn) (H0 H : Hp) : D → V → Prop
  | .tup l, v => l.length ≤ lim ∧ ∃ a vs, v = .ref a ∧ SqT c.K H a vs ∧ Dats c H0 l vs
  | .lst l, v => l.length ≤ lim ∧ ∃ a vs, v = .ref a ∧ SqL c.K H a vs ∧ Dats c H0 l vs
  | .dct l, v => l.length ≤ lim ∧ ∃ a kvs, v = .ref a ∧ Rd H a (.dK kvs) ∧ DatK c H0 l kvs
  | .obj k l, v => ∃ a dx fs, v = .ref a ∧ H a = some (.ins (c.cls k) dx fs) ∧ fs.map (·.1) = (c.fld k).take l.length ∧ Dats c H0 l (fs.map (·.2))
  | d, v => Dat c H0 d v
theorem Dat.d1 {c : Cn} {H0 H : Hp} (s : Same H0 H) : ∀ {d : D} {v : V}, Dat c H0 d v → Dat1 c H0 H d v
  | .non, _, h => h
  | .bl _, _, h => h
  | .int _, _, h => h
  | .str _, _, h => h
  | .tup l, _, ⟨hl, a, vs, h1, h2, h3⟩ => ⟨hl, a, vs, h1, SqT.same s h2, h3⟩
  | .lst l, _, ⟨hl, a, vs, h1, h2, h3⟩ => ⟨hl, a, vs, h1, SqL.same s h2, h3⟩
  | .dct l, _, ⟨hl, a, kvs, h1, h2, h3⟩ => ⟨hl, a, kvs, h1, Rd.same s h2, h3⟩
  | .obj k l, _, ⟨a, dx, fs, h1, h2, h3, h4⟩ => ⟨a, dx, fs, h1, s _ _ h2, h3, h4⟩
  | .ex k d, _, h => h
theorem Dat1.dat {c : Cn} {H0 H : Hp} (s : Same H0 H) : ∀ {d : D} {v : V}, Dat1 c H0 H d v → Dat c H d v
  | .non, _, h => h
  | .bl _, _, h => h
  | .int _, _, h => h
  | .str _, _, h => h
  | .tup l, _, ⟨hl, a, vs, h1, h2, h3⟩ => ⟨hl, a, vs, h1, h2, Dats.mono s _ _ h3⟩
  | .lst l, _, ⟨hl, a, vs, h1, h2, h3⟩ => ⟨hl, a, vs, h1, h2, Dats.mono s _ _ h3⟩
  | .dct l, _, ⟨hl, a, kvs, h1, h2, h3⟩ => ⟨hl, a, kvs, h1, h2, DatK.mono s _ _ h3⟩
  | .obj k l, _, ⟨a, dx, fs, h1, h2, h3, h4⟩ => ⟨a, dx, fs, h1, h2, h3, Dats.mono s _ _ h4⟩
  | .ex k d, _, h => c.exM k d _ _ _ s h
theorem OwnR.d1 {c : Cn} {H0 H : Hp} (s : Same H0 H) {o : O} {v : V} {as : List Addr} {d : D} (h : OwnR c H0 H o v as) (e : o.pk = some d) : Dat1 c H0 H d v := by
  cases o with
  | sh x =>
    cases e
    exact Dat.d1 s h.2
  | fl l =>
    cases e
    obtain ⟨hl, a, vs, h1, h2, h3, h4⟩ := h
    exact ⟨hl, a, vs, h1, SqL.of h3, h4⟩
  | fd l =>
    cases e
    obtain ⟨hl, a, vs, h1, h2, h3, h4⟩ := h
    exact ⟨hl, a, vs, h1, .inl h3, h4⟩
  | fo k os => cases e
/-- an answer held while others are reckoned -/
def Kp (c : Cn) (H0 : Hp) (σ : St) (v : V) : R → Prop
  | .d x => Dat c H0 x v
  | .sl i => σ[i]? = some (some v)
  | .ow _ => False
section
variable {c : Cn} {H0 H1 Fr H : Hp} {σ : St} {e : Env} {v : V} {r : R}
theorem Kp.mono (s : Same H0 H1) (h : Kp c H0 σ v r) : Kp c H1 σ v r := by
  cases r with
  | d x => exact Dat.mono s _ _ h
  | sl i => exact h
  | ow o => exact h
theorem RpR.rp (h : RpR c H0 Fr H σ e v r) : ∃ as, Rp c H0 Fr H σ e as := by
  cases r with
  | d x => exact h.1
  | sl i => exact h.1
  | ow o => exact Rp1.rp h
theorem RpR.keep (h : RpR c H0 Fr H σ e v r) : ∃ H2 as, Same H0 H2 ∧ Rp c H2 Fr H σ e as ∧ Kp c H2 σ v (nrm r) := by
  cases r with
  | d x =>
    obtain ⟨⟨as, h1⟩, h2⟩ := h
    exact ⟨H0, as, Same.refl _, h1, h2⟩
  | sl i =>
    obtain ⟨⟨as, h1⟩, h2⟩ := h
    exact ⟨H0, as, Same.refl _, h1, h2⟩
  | ow o =>
    obtain ⟨H2, as, s, h1, h2⟩ := Rp1.freeze h
    exact ⟨H2, as, s, h1, h2⟩
theorem Kp.peek {as : Nat → List Addr} (rp : Rp c H0 Fr H σ e as) (k : Kp c H0 σ v r) {d : D} (h : peek r e = some d) : Dat1 c H0 H d v := by
  cases r with
  | d x =>
    cases h
    exact Dat.d1 rp.sub k
  | sl i =>
    have h : (slot e i).bind O.pk = some d := h
    cases q : slot e i with
    | none =>
      rw [q] at h
      cases h
    | some o =>
      rw [q] at h
      obtain ⟨w, h1, h2⟩ := rp.own i o q
      have k : σ[i]? = some (some v) := k
      rw [h1] at k
      cases k
      exact OwnR.d1 rp.sub h2 h
  | ow o => exact k.elim
/-- an operand at the end -/
theorem RpR.peek (h : RpR c H0 Fr H σ e v r) {d : D} (hp : peek r e = some d) : ∃ H2 as, Same H0 H2 ∧ Rp c H2 Fr H σ e as ∧ Dat1 c H2 H d v := by
  cases r with
  | d x =>
    obtain ⟨⟨as, h1⟩, h2⟩ := h
    exact ⟨H0, as, Same.refl _, h1, Kp.peek (r := .d x) h1 h2 hp⟩
  | sl i =>
    obtain ⟨⟨as, h1⟩, h2⟩ := h
    exact ⟨H0, as, Same.refl _, h1, Kp.peek (r := .sl i) h1 h2 hp⟩
  | ow o =>
    obtain ⟨H2, as, s, h1, h2⟩ := Rp1.freeze h
    have hp : o.pk = some d := hp
    refine ⟨H2, as, s, h1, ?_⟩
    have : o.frz = d := by
      cases o <;> cases hp <;> rfl
    rw [← this]
    exact Dat.d1 h1.sub h2
/-- an answer is kept -/
theorem RpR.leak (h : RpR c H0 Fr H σ e v r) {d : D} {e' : Env} (hl : leak r e = .ok d e') : ∃ H2 as, Same H0 H2 ∧ Rp c H2 Fr H σ e' as ∧ Dat c H2 d v := by
  cases r with
  | d x =>
    cases hl
    obtain ⟨⟨as, h1⟩, h2⟩ := h
    exact ⟨H0, as, Same.refl _, h1, h2⟩
  | sl i =>
    obtain ⟨⟨as, h1⟩, h2⟩ := h
    have hl : (match slot e i with
      | some o => Rs.ok o.frz (e.set i (some (.sh o.frz)))
      | none => .bad) = .ok d e' := hl
    cases q : slot e i with
    | none =>
      rw [q] at hl
      cases hl
    | some o =>
      rw [q] at hl
      cases hl
      obtain ⟨H2, w, s, h3, h4, h5⟩ := h1.freeze q
      rw [h2] at h4
      cases h4
      exact ⟨H2, _, s, h3, h5⟩
  | ow o =>
    cases hl
    obtain ⟨H2, as, s, h1, h2⟩ := Rp1.freeze h
    exact ⟨H2, as, s, h1, h2⟩
theorem leak_ok {e' : Env} (h : RpR c H0 Fr H σ e v r) : (∃ d e1, leak r e = .ok d e1) ∨ leak r e = .bad := by
  cases r with
  | d x => exact .inl ⟨_, _, rfl⟩
  | sl i =>
    show (∃ d e1, (match slot e i with
      | some o => Rs.ok o.frz (e.set i (some (.sh o.frz)))
      | none => .bad) = .ok d e1) ∨ (match slot e i with
      | some o => Rs.ok o.frz (e.set i (some (.sh o.frz)))
      | none => .bad) = .bad
    cases slot e i with
    | none => exact .inr rfl
    | some o => exact .inl ⟨_, _, rfl⟩
  | ow o => exact .inl ⟨_, _, rfl⟩
end
/-! ### the readings -/
/-- what a run of a plain function must give: RR how its answer lies, Q what is wanted -/
def Po {α β : Type} (t : Tb) (c : Cn) (W : WX) (Fr : Hp) (σ : St) (H0 : Hp) (RR : Hp → Hp → Env → β → α → Prop) (Q : β → Hp → Prop) : Rs α → Prop
  | .ok a e => ∀ b H1 H', Same H0 H1 → RR H1 H' e b a → Q b H'
  | .ex k p e => ∀ H1 H' as cls dx, Same H0 H1 → Rp c H1 Fr H' σ e as → ExA t c H1 H' k p cls dx → W cls dx σ H'
  | .bad => False
def tG {α β : Type} (t : Tb) (c : Cn) (W : WX) (RR : Hp → St → Hp → Hp → Env → β → α → Prop) (m : M α) : St → Hp → (β → Hp → Prop) → Prop := fun σ H Q =>
  ∃ (e : Env) (H0 Fr : Hp) (as : Nat → List Addr), Rp c H0 Fr H σ e as ∧ Po t c W Fr σ H0 (RR Fr σ) Q (m e)
def rrR (c : Cn) : Hp → St → Hp → Hp → Env → V → R → Prop := fun Fr σ H1 H' e v r => RpR c H1 Fr H' σ e v r
def rrB (c : Cn) : Hp → St → Hp → Hp → Env → Bool → Bool → Prop := fun Fr σ H1 H' e b a => b = a ∧ ∃ as, Rp c H1 Fr H' σ e as
def Kps (c : Cn) (H0 : Hp) (σ : St) : List V → List R → Prop
  | [], rs => rs = []
  | v :: vs, rs => ∃ r qs, rs = r :: qs ∧ Kp c H0 σ v r ∧ Kps c H0 σ vs qs
def rrRs (c : Cn) : Hp → St → Hp → Hp → Env → List V → List R → Prop := fun Fr σ H1 H' e vs rs => (∃ as, Rp c H1 Fr H' σ e as) ∧ Kps c H1 σ vs rs
def rrDs (c : Cn) : Hp → St → Hp → Hp → Env → List V → List D → Prop := fun Fr σ H1 H' e vs ds => (∃ as, Rp c H1 Fr H' σ e as) ∧ Dats c H1 ds vs
abbrev tI (X : Cx) (t : Tb) (W : WX) (m : M R) : TE := tG t (cn X t) W (rrR (cn X t)) m
abbrev SE (X : Cx) (t : Tb) (W : WX) (e : Expr) (m : M R) : Prop := PE X e (tI X t W m)
abbrev SB (X : Cx) (t : Tb) (W : WX) (e : Expr) (m : M Bool) : Prop := PT X e (tG t (cn X t) W (rrB (cn X t)) m)
abbrev SW (X : Cx) (t : Tb) (W : WX) (e : Expr) (m : M Bool) : Prop := PW X e (tG t (cn X t) W (rrB (cn X t)) m)
abbrev SA (X : Cx) (t : Tb) (W : WX) (es : List Expr) (m : M (List R)) : Prop := PA X es (tG t (cn X t) W (rrRs (cn X t)) m)
abbrev SD (X : Cx) (t : Tb) (W : WX) (es : List Expr) (m : M (List D)) : Prop := PA X es (tG t (cn X t) W (rrDs (cn X t)) m)
theorem PE.imp {X : Cx} {e : Expr} {u u' : TE} (h : PE X e u) (k : ∀ σ H Q, u' σ H Q → u σ H Q) : PE X e u' := ⟨fun pins s σ H Q I q => h.run pins s σ H Q I (k _ _ _ q)⟩
theorem PT.imp {X : Cx} {e : Expr} {u u' : TT} (h : PT X e u) (k : ∀ σ H Q, u' σ H Q → u σ H Q) : PT X e u' := ⟨fun pins s σ H Q I q => h.run pins s σ H Q I (k _ _ _ q)⟩
theorem PW.imp {X : Cx} {e : Expr} {u u' : TT} (h : PW X e u) (k : ∀ σ H Q, u' σ H Q → u σ H Q) : PW X e u' := ⟨fun wh pins s σ H Q I q => h.run wh pins s σ H Q I (k _ _ _ q)⟩
theorem PA.imp {X : Cx} {es : List Expr} {u u' : TA} (h : PA X es u) (k : ∀ σ H Q, u' σ H Q → u σ H Q) : PA X es u' := ⟨fun pos pins s σ H Q I q => h.run pos pins s σ H Q I (k _ _ _ q)⟩
section
variable {α β γ δ : Type} {t : Tb} {c : Cn} {W : WX}
theorem Po.mono {RR : Hp → Hp → Env → β → α → Prop} {Q : β → Hp → Prop} {Fr H0 H1 : Hp} {σ : St} {x : Rs α} (s : Same H0 H1) (h : Po t c W Fr σ H0 RR Q x) : Po t c W Fr σ H1 RR Q x := by
  cases x with
  | ok a e => exact fun b H2 H' s2 rr => h b H2 H' (s.trans s2) rr
  | ex k p e => exact fun H2 H' as cls dx s2 rp xa => h H2 H' as cls dx (s.trans s2) rp xa
  | bad => exact h
/-- one run behind another -/
theorem Po.bind {RR : Hp → Hp → Env → β → α → Prop} {RS : Hp → Hp → Env → δ → γ → Prop} {x : Rs α} {f : α → Env → Rs γ} {σ : St} {Fr H0 : Hp} {Q : δ → Hp → Prop} {k : β → Hp → Prop}
    (po : Po t c W Fr σ H0 RS Q (andThen x f)) (hk : ∀ (a : α) (e : Env) (b : β) (H1 H' : Hp), Same H0 H1 → RR H1 H' e b a → Po t c W Fr σ H1 RS Q (f a e) → k b H') : Po t c W Fr σ H0 RR k x := by
  cases x with
  | ok a e1 => exact fun b H1 H' s rr => hk a e1 b H1 H' s rr (Po.mono s po)
  | ex k' p e1 => exact po
  | bad => exact po
/-- an option that must be there -/
theorem Po.ofO {RR : Hp → Hp → Env → β → α → Prop} {Q : β → Hp → Prop} {Fr H0 : Hp} {σ : St} {x : Option γ} {f : γ → Rs α} (h : Po t c W Fr σ H0 RR Q (ofO x f)) : ∃ a, x = some a ∧ Po t c W Fr σ H0 RR Q (f a) := by
  cases x with
  | none => exact h.elim
  | some a => exact ⟨a, rfl, h⟩
/-- the answer is there -/
theorem Po.ret {RR : Hp → Hp → Env → β → α → Prop} {Q : β → Hp → Prop} {Fr H0 H1 H' : Hp} {σ : St} {a : α} {e : Env} {b : β} (h : Po t c W Fr σ H0 RR Q (.ok a e)) (s : Same H0 H1) (rr : RR H1 H' e b a) : Q b H' := h b H1 H' s rr
theorem Po.tG {RR : Hp → St → Hp → Hp → Env → β → α → Prop} {Q : β → Hp → Prop} {Fr H0 H1 H : Hp} {σ : St} {m : M α} {e : Env} {as : Nat → List Addr} (h : Po t c W Fr σ H0 (RR Fr σ) Q (m e)) (s : Same H0 H1) (rp : Rp c H1 Fr H σ e as) : tG t c W RR m σ H Q :=
  ⟨e, H1, Fr, as, rp, h.mono s⟩
end
/-! ### names and constants -/
section
variable {X : Cx} {t : Tb} {W : WX}
theorem se_var {x : Str} {pos : Pos} {i : Nat} (h : PE X (.Name x pos) (tVar i)) : SE X t W (.Name x pos) (mVar i) := by
  refine PE.imp h fun σ H Q ⟨e, H0, Fr, as, rp, po⟩ => ?_
  have po : Po t (cn X t) W Fr σ H0 (rrR (cn X t) Fr σ) Q (match slot e i with
    | some _ => .ok (.sl i) e
    | none => .bad) := po
  cases q : slot e i with
  | none =>
    rw [q] at po
    exact po.elim
  | some o =>
    rw [q] at po
    obtain ⟨v, h1, h2⟩ := rp.own i o q
    exact ⟨v, h1, po v H0 H (Same.refl _) ⟨⟨as, rp⟩, h1⟩⟩
theorem se_k {e : Expr} {v : V} {d : D} (h : PE X e (tC v)) (hd : ∀ H, Dat (cn X t) H d v) : SE X t W e (mC d) := by
  refine PE.imp h fun σ H Q ⟨e, H0, Fr, as, rp, po⟩ => ?_
  exact po v H0 H (Same.refl _) ⟨⟨as, rp⟩, hd H0⟩
theorem se_int {i : Int} {j pos} : SE X t W (.Constant (.int i) j pos) (mC (.int i)) := se_k pe_int fun _ => rfl
theorem se_bl {b : Bool} {j pos} : SE X t W (.Constant (.bool b) j pos) (mC (.bl b)) := se_k pe_bl fun _ => rfl
theorem se_non {j pos} : SE X t W (.Constant .none j pos) (mC .non) := se_k pe_non fun _ => rfl
theorem se_str {x : Str} {l : List Nat} {j pos} (h : x = sS l := by decide +kernel) (hl : l.length ≤ lim := by decide) : SE X t W (.Constant (.str x) j pos) (mC (.str l)) := se_k pe_str fun _ => ⟨by rw [h], hl⟩
theorem se_gint {x : Str} {i : Int} {pos : Pos} (hg : Gl X x) (hm : ∃ u, X.mg x = some (.int i u)) (hd : (x == ("__debug__" : Str)) = false := by decide) : SE X t W (.Name x pos) (mC (.int i)) := by
  obtain ⟨u, hm⟩ := hm
  exact se_k (pe_glob (v := .int i) hg hm ⟨u, rfl⟩ hd) fun _ => rfl
theorem se_gstr {x : Str} {l : List Nat} {pos : Pos} (hg : Gl X x) (hm : ∃ u, X.mg x = some (.str (sS l) u)) (hl : l.length ≤ lim := by decide) (hd : (x == ("__debug__" : Str)) = false := by decide) : SE X t W (.Name x pos) (mC (.str l)) := by
  obtain ⟨u, hm⟩ := hm
  exact se_k (pe_glob (v := .str (sS l)) hg hm ⟨u, rfl⟩ hd) fun _ => ⟨rfl, hl⟩
theorem se_gref {x : Str} {a : Addr} {d : D} {pos : Pos} (hg : Gl X x) (hm : X.mg x = some (.ref a)) (hd2 : ∀ H, Dat (cn X t) H d (.ref a)) (hd : (x == ("__debug__" : Str)) = false := by decide) : SE X t W (.Name x pos) (mC d) :=
  se_k (pe_glob (v := .ref a) hg hm rfl hd) hd2
end
/-! ### operations by values -/
/-- what an operation's answer may be: shared data as it stands, or a new object -/
def Out (c : Cn) (H0 H : Hp) (d : D) (Q : VK) : Prop := (∀ z, Dat c H0 d z → Q z H) ∧ ∀ p o, H p = none → Dat c (upd H0 p o) d (.ref p) → Q (.ref p) (upd H p o)
def VOp1 (c : Cn) (r : V → Hp → VK → Prop) (f : D → Option D) : Prop := ∀ (H0 H : Hp) (x : V) (dx dz : D) (Q : VK), Same H0 H → f dx = some dz → Dat1 c H0 H dx x → Out c H0 H dz Q → r x H Q
def VOp2 (c : Cn) (r : R2) (f : D → D → Option D) : Prop := ∀ (H0 H : Hp) (x y : V) (dx dy dz : D) (Q : VK), Same H0 H → f dx dy = some dz → Dat1 c H0 H dx x → Dat1 c H0 H dy y → Out c H0 H dz Q → r x y H Q
/-- a new list -/
def NewL (c : Cn) (H0 H : Hp) (l : List D) (Q : VK) : Prop := ∀ p vs, H p = none → l.length ≤ lim → Dats c H0 l vs → Q (.ref p) (upd H p (.lst vs))
def LOp2 (c : Cn) (r : R2) (f : D → D → Option (List D)) : Prop := ∀ (H0 H : Hp) (x y : V) (dx dy : D) (l : List D) (Q : VK), Same H0 H → f dx dy = some l → Dat1 c H0 H dx x → Dat1 c H0 H dy y → NewL c H0 H l Q → r x y H Q
section
variable {t : Tb} {c : Cn} {W : WX} {Fr H0 H : Hp} {σ : St} {e : Env} {as : Nat → List Addr} {Q : VK}
theorem Po.out {d : D} (h : Po t c W Fr σ H0 (rrR c Fr σ) Q (.ok (.d d) e)) (rp : Rp c H0 Fr H σ e as) : Out c H0 H d Q :=
  ⟨fun z hz => h z H0 H (Same.refl _) ⟨⟨as, rp⟩, hz⟩, fun p o hp hd => h (.ref p) _ _ (rp.alloc hp).1 ⟨⟨as, (rp.alloc hp).2⟩, hd⟩⟩
theorem Po.newL {l : List D} (h : Po t c W Fr σ H0 (rrR c Fr σ) Q (.ok (.ow (.fl l)) e)) (rp : Rp c H0 Fr H σ e as) : NewL c H0 H l Q :=
  fun p vs hp hl hd => h (.ref p) H0 _ (Same.refl _) (rp.new hp ⟨hl, p, vs, rfl, rfl, upd_same, hd⟩)
end
section
variable {X : Cx} {t : Tb} {W : WX} {a b : Expr} {ma mb : M R}
/-- the step behind one operand -/
theorem tI_op1 {r : V → Hp → VK → Prop} {f : D → Option D} (h : VOp1 (cn X t) r f) {σ : St} {H : Hp} {Q : VK} (q : tI X t W (mOp1 f ma) σ H Q) : tI X t W ma σ H fun x H1 => r x H1 Q := by
  obtain ⟨e, H0, Fr, as, rp, po⟩ := q
  refine ⟨e, H0, Fr, as, rp, po.bind fun ra e1 v H1 H' s rr po => ?_⟩
  obtain ⟨dx, e1, po⟩ := po.ofO
  obtain ⟨dz, e2, po⟩ := po.ofO
  obtain ⟨H2, as, s2, rp, hd⟩ := RpR.peek rr e1
  exact h H2 H' v dx dz Q rp.sub e2 hd ((po.mono s2).out rp)
theorem tI_op2 {r : R2} {f : D → D → Option D} (h : VOp2 (cn X t) r f) {σ : St} {H : Hp} {Q : VK} (q : tI X t W (mOp2 f ma mb) σ H Q) : tOp r (tI X t W ma) (tI X t W mb) σ H Q := by
  obtain ⟨e, H0, Fr, as, rp, po⟩ := q
  refine ⟨e, H0, Fr, as, rp, po.bind fun ra e1 v H1 H' s rr po => ?_⟩
  obtain ⟨H2, as, s2, rp, kp⟩ := RpR.keep rr
  refine ⟨e1, H2, Fr, as, rp, (po.mono s2).bind fun rb e2 w H3 H'' s3 rr2 po => ?_⟩
  obtain ⟨dx, q1, po⟩ := po.ofO
  obtain ⟨dy, q2, po⟩ := po.ofO
  obtain ⟨dz, q3, po⟩ := po.ofO
  obtain ⟨H4, as, s4, rp, hd⟩ := RpR.peek rr2 q2
  exact h H4 H'' v w dx dy dz Q rp.sub q3 ((kp.mono (s3.trans s4)).peek rp q1) hd ((po.mono s4).out rp)
theorem tI_ol2 {r : R2} {f : D → D → Option (List D)} (h : LOp2 (cn X t) r f) {σ : St} {H : Hp} {Q : VK} (q : tI X t W (mOl2 f ma mb) σ H Q) : tOp r (tI X t W ma) (tI X t W mb) σ H Q := by
  obtain ⟨e, H0, Fr, as, rp, po⟩ := q
  refine ⟨e, H0, Fr, as, rp, po.bind fun ra e1 v H1 H' s rr po => ?_⟩
  obtain ⟨H2, as, s2, rp, kp⟩ := RpR.keep rr
  refine ⟨e1, H2, Fr, as, rp, (po.mono s2).bind fun rb e2 w H3 H'' s3 rr2 po => ?_⟩
  obtain ⟨dx, q1, po⟩ := po.ofO
  obtain ⟨dy, q2, po⟩ := po.ofO
  obtain ⟨dz, q3, po⟩ := po.ofO
  obtain ⟨H4, as, s4, rp, hd⟩ := RpR.peek rr2 q2
  exact h H4 H'' v w dx dy dz Q rp.sub q3 ((kp.mono (s3.trans s4)).peek rp q1) hd ((po.mono s4).newL rp)
variable {pos : Pos}
theorem se_un {op : UnaryOp} {r : V → Hp → VK → Prop} {f : D → Option D} (ho : UnR X (unaryOp op) r) (h : VOp1 (cn X t) r f) (ha : SE X t W a ma) : SE X t W (.UnaryOp op a pos) (mOp1 f ma) := PE.imp (pe_un ho ha) fun _ _ _ q => tI_op1 h q
theorem se_op {op : Operator} {r : R2} {f : D → D → Option D} (ho : OpR X (binaryOp op) r) (h : VOp2 (cn X t) r f) (ha : SE X t W a ma) (hb : SE X t W b mb) : SE X t W (.BinOp a op b pos) (mOp2 f ma mb) := PE.imp (pe_op ho ha hb) fun _ _ _ q => tI_op2 h q
theorem se_opL {op : Operator} {r : R2} {f : D → D → Option (List D)} (ho : OpR X (binaryOp op) r) (h : LOp2 (cn X t) r f) (ha : SE X t W a ma) (hb : SE X t W b mb) : SE X t W (.BinOp a op b pos) (mOl2 f ma mb) := PE.imp (pe_op ho ha hb) fun _ _ _ q => tI_ol2 h q
theorem se_cmp {op : CmpOp} {r : R2} {f : D → D → Option D} (ho : OpR X (compareOp op) r) (h : VOp2 (cn X t) r f) (ha : SE X t W a ma) (hb : SE X t W b mb) (hm : behindInMarks op b = false) : SE X t W (.Compare a [op] [b] pos) (mOp2 f ma mb) :=
  PE.imp (pe_cmpR ho ha hb hm) fun _ _ _ q => tI_op2 h q
theorem se_ix {r : R2} {f : D → D → Option D} (hr : IxR X r) (h : VOp2 (cn X t) r f) (ha : SE X t W a ma) (hb : SE X t W b mb) (hs : PlainIx b) : SE X t W (.Subscript a b pos) (mOp2 f ma mb) := PE.imp (pe_ix hr ha hb hs) fun _ _ _ q => tI_op2 h q
/-! ### tests -/
/-- the value of a test is a bool -/
theorem tG_tb {σ : St} {H : Hp} {Q : Bool → Hp → Prop} (q : tG t (cn X t) W (rrB (cn X t)) (mTB ma) σ H Q) : tI X t W ma σ H fun x H' => ∃ k, x = .bl k ∧ Q k H' := by
  obtain ⟨e, H0, Fr, as, rp, po⟩ := q
  refine ⟨e, H0, Fr, as, rp, po.bind fun ra e1 v H1 H' s rr po => ?_⟩
  cases q : peek ra e1 with
  | none =>
    rw [q] at po
    exact po.elim
  | some d =>
    rw [q] at po
    cases d with
    | bl b =>
      obtain ⟨H2, as, s2, rp, hd⟩ := RpR.peek rr q
      exact ⟨b, hd, (po.mono s2).ret (Same.refl _) ⟨rfl, as, rp⟩⟩
    | _ => exact po.elim
theorem sb_val (ha : SE X t W a ma) (he : ∀ whole, isTrue a X.env whole = (do let v ← whole; standAt a.pos; holding [v] (truthy v)) := by intro _; rfl) : SB X t W a (mTB ma) := PT.imp (pt_val ha he) fun _ _ _ q => tG_tb q
theorem sb_cmp {op : CmpOp} {r : R2} {f : D → D → Option D} (ho : OpR X (compareOp op) r) (h : VOp2 (cn X t) r f) (ha : SE X t W a ma) (hb : SE X t W b mb) (hm : behindInMarks op b = false) : SB X t W (.Compare a [op] [b] pos) (mTB (mOp2 f ma mb)) :=
  PT.imp (pt_cmpR ho ha hb hm) fun _ _ _ q => tI_op2 h (tG_tb q)
theorem tru_of {c : Cn} {H0 H : Hp} {d : D} {v : V} {k : Bool} (h : Dat1 c H0 H d v) (e : truD d = some k) : TruV c.K v H k := by
  cases d with
  | non =>
    cases h
    cases e
    rfl
  | bl b =>
    cases h
    cases e
    rfl
  | int i =>
    cases h
    cases e
    rfl
  | str x =>
    obtain ⟨rfl, hl⟩ := h
    cases e
    refine ⟨?_, ?_⟩
    · show (sS x).cps.size ≤ sizeLine
      simpa [sS, sizeLine_eq, lim] using hl
    · show _ = (((sS x).cps.size : Int) != 0)
      cases x <;> simp [sS] <;> omega
  | lst l =>
    obtain ⟨_, a, vs, rfl, h2, h3⟩ := h
    cases e
    refine .inl ⟨vs, h2, ?_⟩
    have := h3.len
    cases l <;> cases vs <;> simp at this <;> rfl
  | tup l =>
    obtain ⟨_, a, vs, rfl, h2, h3⟩ := h
    cases e
    refine .inr (.inl ⟨vs, h2, ?_⟩)
    have := h3.len
    cases l <;> cases vs <;> simp at this <;> rfl
  | _ => cases e
theorem sb_tru (ha : SE X t W a ma) (he : ∀ whole, isTrue a X.env whole = (do let v ← whole; standAt a.pos; holding [v] (truthy v)) := by intro _; rfl) : SB X t W a (mTru ma) := by
  refine PT.imp (pt_truth ha he) fun σ H Q ⟨e, H0, Fr, as, rp, po⟩ => ?_
  refine ⟨e, H0, Fr, as, rp, po.bind fun ra e1 v H1 H' s rr po => ?_⟩
  obtain ⟨d, q1, po⟩ := po.ofO
  obtain ⟨b, q2, po⟩ := po.ofO
  obtain ⟨H2, as, s2, rp, hd⟩ := RpR.peek rr q1
  exact ⟨b, tru_of hd q2, (po.mono s2).ret (Same.refl _) ⟨rfl, as, rp⟩⟩
variable {m1 m2 : M Bool} {rest : List Expr}
theorem sw_pt (h : SW X t W a m1) : SB X t W a m1 := h.pt
theorem sw_and1 (h : SB X t W a m1) : SW X t W (.BoolOp .And [a] pos) m1 := pw_and1 h
theorem sw_or1 (h : SB X t W a m1) : SW X t W (.BoolOp .Or [a] pos) m1 := pw_or1 h
theorem sw_and (h : SB X t W a m1) (h2 : SW X t W (.BoolOp .And (b :: rest) pos) m2) : SW X t W (.BoolOp .And (a :: b :: rest) pos) (mAnd m1 m2) := by
  refine PW.imp (pw_and h h2) fun σ H Q ⟨e, H0, Fr, as, rp, po⟩ => ?_
  refine ⟨e, H0, Fr, as, rp, po.bind fun x e1 k H1 H' s ⟨ek, as2, rp2⟩ po => ?_⟩
  subst ek
  cases k with
  | true => exact ⟨e1, H1, Fr, as2, rp2, po⟩
  | false => exact po.ret (Same.refl _) ⟨rfl, as2, rp2⟩
theorem sw_or (h : SB X t W a m1) (h2 : SW X t W (.BoolOp .Or (b :: rest) pos) m2) : SW X t W (.BoolOp .Or (a :: b :: rest) pos) (mOr m1 m2) := by
  refine PW.imp (pw_or h h2) fun σ H Q ⟨e, H0, Fr, as, rp, po⟩ => ?_
  refine ⟨e, H0, Fr, as, rp, po.bind fun x e1 k H1 H' s ⟨ek, as2, rp2⟩ po => ?_⟩
  subst ek
  cases k with
  | true => exact po.ret (Same.refl _) ⟨rfl, as2, rp2⟩
  | false => exact ⟨e1, H1, Fr, as2, rp2, po⟩
theorem sb_not (h : SB X t W a m1) : SB X t W (.UnaryOp .Not a pos) (mNot m1) := by
  refine PT.imp (pt_not h) fun σ H Q ⟨e, H0, Fr, as, rp, po⟩ => ?_
  refine ⟨e, H0, Fr, as, rp, po.bind fun x e1 k H1 H' s ⟨ek, as2, rp2⟩ po => ?_⟩
  subst ek
  exact po.ret (Same.refl _) ⟨rfl, as2, rp2⟩
theorem se_if {cnd : Expr} (h : SB X t W cnd m1) (ha : SE X t W a ma) (hb : SE X t W b mb) : SE X t W (.IfExp cnd a b pos) (mIf m1 ma mb) := by
  refine PE.imp (pe_ifExp h ha hb) fun σ H Q ⟨e, H0, Fr, as, rp, po⟩ => ?_
  refine ⟨e, H0, Fr, as, rp, po.bind fun x e1 k H1 H' s ⟨ek, as2, rp2⟩ po => ?_⟩
  subst ek
  cases k with
  | true => exact ⟨e1, H1, Fr, as2, rp2, po⟩
  | false => exact ⟨e1, H1, Fr, as2, rp2, po⟩
/-! ### and, or, not as values -/
theorem se_one {op : BoolOp} (h : SE X t W a ma) : SE X t W (.BoolOp op [a] pos) ma := pe_one h
theorem peek_bl {c : Cn} {ra : R} {e1 : Env} {γ δ : Type} {RS : Hp → Hp → Env → δ → γ → Prop} {Fr H0 : Hp} {σ : St} {Q : δ → Hp → Prop} {f : Bool → Rs γ}
    (po : Po t c W Fr σ H0 RS Q (match peek ra e1 with | some (.bl x) => f x | _ => .bad)) : ∃ b, peek ra e1 = some (.bl b) ∧ Po t c W Fr σ H0 RS Q (f b) := by
  cases q : peek ra e1 with
  | none =>
    rw [q] at po
    exact po.elim
  | some d =>
    rw [q] at po
    cases d with
    | bl b => exact ⟨b, rfl, po⟩
    | _ => exact po.elim
theorem se_and (ha : SE X t W a ma) (hb : SE X t W (.BoolOp .And (b :: rest) pos) mb) : SE X t W (.BoolOp .And (a :: b :: rest) pos) (mAndV ma mb) := by
  refine PE.imp (pe_and ha hb) fun σ H Q ⟨e, H0, Fr, as, rp, po⟩ => ?_
  refine ⟨e, H0, Fr, as, rp, po.bind fun ra e1 v H1 H' s rr po => ?_⟩
  obtain ⟨k, q1, po⟩ := peek_bl po
  obtain ⟨H2, as, s2, rp, hd⟩ := RpR.peek rr q1
  refine ⟨k, hd, ?_⟩
  cases k with
  | true => exact ⟨e1, H2, Fr, as, rp, po.mono s2⟩
  | false => exact (po.mono s2).ret (Same.refl _) ⟨⟨as, rp⟩, rfl⟩
theorem se_or (ha : SE X t W a ma) (hb : SE X t W (.BoolOp .Or (b :: rest) pos) mb) : SE X t W (.BoolOp .Or (a :: b :: rest) pos) (mOrV ma mb) := by
  refine PE.imp (pe_or ha hb) fun σ H Q ⟨e, H0, Fr, as, rp, po⟩ => ?_
  refine ⟨e, H0, Fr, as, rp, po.bind fun ra e1 v H1 H' s rr po => ?_⟩
  obtain ⟨k, q1, po⟩ := peek_bl po
  obtain ⟨H2, as, s2, rp, hd⟩ := RpR.peek rr q1
  refine ⟨k, hd, ?_⟩
  cases k with
  | true => exact (po.mono s2).ret (Same.refl _) ⟨⟨as, rp⟩, rfl⟩
  | false => exact ⟨e1, H2, Fr, as, rp, po.mono s2⟩
/-! ### several in a row -/
variable {es : List Expr} {ms : List (M R)}
theorem sa_nil : SA X t W [] (mRs []) := by
  refine PA.imp pa_nil fun σ H Q ⟨e, H0, Fr, as, rp, po⟩ => ?_
  exact po [] H0 H (Same.refl _) ⟨⟨as, rp⟩, rfl⟩
theorem sa_cons (ha : SE X t W a ma) (hr : SA X t W es (mRs ms)) (hs : starEach (a :: es) X.env = (false, eval a X.env) :: starEach es X.env := by rfl) : SA X t W (a :: es) (mRs (ma :: ms)) := by
  refine PA.imp (pa_cons ha hr hs) fun σ H Q ⟨e, H0, Fr, as, rp, po⟩ => ?_
  refine ⟨e, H0, Fr, as, rp, Po.bind (f := fun r e1 => andThen (mRs ms e1) fun rs e2 => .ok (nrm r :: rs) e2) po fun ra e1 v H1 H' s rr po => ?_⟩
  obtain ⟨H2, as, s2, rp, kp⟩ := RpR.keep rr
  refine ⟨e1, H2, Fr, as, rp, (po.mono s2).bind fun rs e2 vs H3 H'' s3 ⟨rp3, ks⟩ po => ?_⟩
  exact po.ret (Same.refl _) ⟨rp3, _, _, rfl, kp.mono s3, ks⟩
theorem sd_nil : SD X t W [] (mLks []) := by
  refine PA.imp pa_nil fun σ H Q ⟨e, H0, Fr, as, rp, po⟩ => ?_
  exact po [] H0 H (Same.refl _) ⟨⟨as, rp⟩, rfl⟩
theorem Po.leak {c : Cn} {Fr H0 H : Hp} {σ : St} {ra : R} {e1 : Env} {v : V} {γ δ : Type} {RS : Hp → Hp → Env → δ → γ → Prop} {Q : δ → Hp → Prop} {f : D → Env → Rs γ}
    (po : Po t c W Fr σ H0 RS Q (andThen (leak ra e1) f)) (rr : RpR c H0 Fr H σ e1 v ra) : ∃ d e2 H2 as, leak ra e1 = .ok d e2 ∧ Same H0 H2 ∧ Rp c H2 Fr H σ e2 as ∧ Dat c H2 d v ∧ Po t c W Fr σ H2 RS Q (f d e2) := by
  rcases leak_ok (e' := e1) rr with ⟨d, e2, q⟩ | q
  · rw [q] at po
    obtain ⟨H2, as, s, rp, hd⟩ := RpR.leak rr q
    exact ⟨d, e2, H2, as, q, s, rp, hd, Po.mono s po⟩
  · rw [q] at po
    exact po.elim
theorem sd_cons (ha : SE X t W a ma) (hr : SD X t W es (mLks ms)) (hs : starEach (a :: es) X.env = (false, eval a X.env) :: starEach es X.env := by rfl) : SD X t W (a :: es) (mLks (ma :: ms)) := by
  refine PA.imp (pa_cons ha hr hs) fun σ H Q ⟨e, H0, Fr, as, rp, po⟩ => ?_
  refine ⟨e, H0, Fr, as, rp, Po.bind (f := fun r e1 => andThen (leak r e1) fun d e2 => andThen (mLks ms e2) fun ds e3 => .ok (d :: ds) e3) po fun ra e1 v H1 H' s rr po => ?_⟩
  obtain ⟨d, e2, H2, as, q, s2, rp, hd, po⟩ := po.leak rr
  refine ⟨e2, H2, Fr, as, rp, po.bind fun ds e3 vs H3 H'' s3 ⟨rp3, ks⟩ po => ?_⟩
  exact po.ret (Same.refl _) ⟨rp3, v, vs, rfl, Dat.mono s3 _ _ hd, ks⟩
theorem sizeLine_lim : sizeLine = lim := sizeLine_eq
theorem se_tup {x1} (h : SD X t W es (mLks ms)) : SE X t W (.Tuple es x1 pos) (mTup ms) := by
  refine PE.imp (pe_tup h) fun σ H Q ⟨e, H0, Fr, as, rp, po⟩ => ?_
  refine ⟨e, H0, Fr, as, rp, po.bind fun ds e1 vs H1 H' s ⟨⟨as, rp⟩, hd⟩ po => ?_⟩
  by_cases hl : ds.length ≤ lim
  · rw [if_pos hl] at po
    refine ⟨by rw [hd.len, sizeLine_lim]; exact hl, fun p hp => ?_⟩
    exact (po.out rp).2 p _ hp ⟨hl, p, vs, rfl, SqT.of upd_same, Dats.mono (rp.alloc (x := .tup vs) hp).1 _ _ hd⟩
  · rw [if_neg hl] at po
    exact po.elim
theorem se_lst (h : SD X t W es (mLks ms)) : SE X t W (.List es pos) (mLst ms) := by
  refine PE.imp (pe_lst h) fun σ H Q ⟨e, H0, Fr, as, rp, po⟩ => ?_
  refine ⟨e, H0, Fr, as, rp, po.bind fun ds e1 vs H1 H' s ⟨⟨as, rp⟩, hd⟩ po => ?_⟩
  by_cases hl : ds.length ≤ lim
  · rw [if_pos hl] at po
    exact ⟨by rw [hd.len, sizeLine_lim]; exact hl, fun p hp => po.newL rp p vs hp hl hd⟩
  · rw [if_neg hl] at po
    exact po.elim
end
end F
end

section
set_option Elab.async false
set_option linter.all false
set_option autoImplicit false
set_option maxRecDepth 100000
/-! F layer, part D: calls of defs. -/
namespace F
open PySem PySem.Spec PyProof.Rows L2
section
variable {c : Cn} {H0 Fr H : Hp} {σ τ : St} {e g : Env} {as : Nat → List Addr}
theorem slot_app_l {i : Nat} (h : i < e.length) : slot (e ++ g) i = slot e i := by
  unfold slot
  rw [List.getElem?_append_left h]
theorem slot_app_r {i : Nat} : slot (e ++ g) (e.length + i) = slot g i := by
  unfold slot
  rw [List.getElem?_append_right (Nat.le_add_right _ _), Nat.add_sub_cancel_left]
theorem slot_ge {i : Nat} (h : e.length ≤ i) : slot e i = none := by
  unfold slot
  rw [List.getElem?_eq_none h]
/-- one more slot, shared data -/
theorem Rp.snocSh (r : Rp c H0 Fr H σ e as) {d : D} {v : V} (h : Dat c H0 d v) : Rp c H0 Fr H (σ ++ [some v]) (e ++ [some (.sh d)]) as := by
  have hz : as e.length = [] := r.emp _ (slot_ge (Nat.le_refl _))
  refine ⟨by simp [r.len], r.sub, r.fr, fun i o q => ?_, r.off, r.sep, r.nd, fun i q => ?_, r.tab⟩
  · by_cases hi : i < e.length
    · rw [slot_app_l hi] at q
      obtain ⟨w, h1, h2⟩ := r.own i o q
      exact ⟨w, by rw [List.getElem?_append_left (by rw [← r.len]; exact hi)]; exact h1, h2⟩
    · have hl := slot_lt q
      have : i = e.length := by simp at hl; omega
      subst this
      have q : slot (e ++ [some (O.sh d)]) (e.length + 0) = some o := q
      rw [slot_app_r] at q
      cases q
      exact ⟨v, by rw [r.len]; simp, by rw [hz]; exact ⟨rfl, h⟩⟩
  · by_cases hi : i < e.length
    · rw [slot_app_l hi] at q
      exact r.emp i q
    · exact r.emp i (slot_ge (Nat.le_of_not_lt hi))
/-- the same things at other slots -/
theorem Rp.re (r : Rp c H0 Fr H σ e as) {σ' : St} {e' : Env} (hl : e'.length = σ'.length) (ρ : Nat → Nat) (h : ∀ i o, slot e' i = some o → slot e (ρ i) = some o ∧ σ'[i]? = σ[ρ i]?)
    (inj : ∀ i j o o', slot e' i = some o → slot e' j = some o' → ρ i = ρ j → i = j) : ∃ as', Rp c H0 Fr H σ' e' as' := by
  refine ⟨fun i => match slot e' i with | some _ => as (ρ i) | none => [], hl, r.sub, r.fr, fun i o q => ?_, fun i a ha => ?_, fun i j a ha hj => ?_, fun i => ?_, fun i q => ?_, r.tab.sub fun i a z => ?_⟩
  · obtain ⟨h1, h2⟩ := h i o q
    obtain ⟨v, h3, h4⟩ := r.own _ o h1
    exact ⟨v, by rw [h2]; exact h3, by simpa [q] using h4⟩
  · cases q : slot e' i with
    | none => simp [q] at ha
    | some o => exact r.off (ρ i) a (by simpa [q] using ha)
  · cases q : slot e' i with
    | none => simp [q] at ha
    | some o =>
      cases q2 : slot e' j with
      | none => simp [q2] at hj
      | some o2 => exact inj i j o o2 q q2 (r.sep _ _ a (by simpa [q] using ha) (by simpa [q2] using hj))
  · cases q : slot e' i with
    | none => simp
    | some o => simpa using r.nd (ρ i)
  · simp [q]
  · cases q : slot e' i with
    | none => simp [q] at z
    | some o => exact ⟨ρ i, by simpa [q] using z⟩
theorem get_app_l {α : Type} {l m : List α} {i : Nat} (h : i < l.length) : (l ++ m)[i]? = l[i]? := List.getElem?_append_left h
theorem get_app_r {α : Type} {l m : List α} {i : Nat} : (l ++ m)[l.length + i]? = m[i]? := by
  rw [List.getElem?_append_right (Nat.le_add_right _ _), Nat.add_sub_cancel_left]
/-- a name's thing goes to a further slot -/
theorem Rp.move (r : Rp c H0 Fr H (σ ++ τ) (e ++ g) as) (hl : e.length = σ.length) {i : Nat} {o : O} {v : V} (q : slot e i = some o) (hv : σ[i]? = some (some v)) :
    ∃ as', Rp c H0 Fr H (σ ++ (τ ++ [some v])) (e.set i none ++ (g ++ [some o])) as' := by
  have hi := slot_lt q
  have hg : g.length = τ.length := by
    have := r.len
    simp at this
    omega
  have key : ∀ j o', slot (e.set i none ++ (g ++ [some o])) j = some o' → (j < e.length ∧ j ≠ i ∧ slot e j = some o') ∨ (∃ k, j = e.length + k ∧ slot g k = some o') ∨ (j = e.length + g.length ∧ o' = o) := fun j o' z => by
    by_cases hj : j < e.length
    · rw [slot_app_l (by simpa using hj)] at z
      obtain ⟨z1, z2⟩ := slot_none z
      exact .inl ⟨hj, z1, z2⟩
    · obtain ⟨k, rfl⟩ : ∃ k, j = e.length + k := ⟨j - e.length, by omega⟩
      have z : slot (e.set i none ++ (g ++ [some o])) ((e.set i none).length + k) = some o' := by simpa using z
      rw [slot_app_r] at z
      by_cases hk : k < g.length
      · rw [slot_app_l hk] at z
        exact .inr (.inl ⟨k, rfl, z⟩)
      · obtain ⟨n, rfl⟩ : ∃ n, k = g.length + n := ⟨k - g.length, by omega⟩
        rw [slot_app_r] at z
        have hn := slot_lt z
        have : n = 0 := by simpa using hn
        subst this
        cases z
        exact .inr (.inr ⟨rfl, rfl⟩)
  refine r.re (by simp [hl, hg]) (fun j => if j = e.length + g.length then i else j) (fun j o' z => ?_) (fun j k o1 o2 z1 z2 he => ?_)
  · rcases key j o' z with ⟨h1, h2, h3⟩ | ⟨k, rfl, h3⟩ | ⟨rfl, rfl⟩
    · rw [if_neg (by omega), slot_app_l h1]
      exact ⟨h3, by rw [get_app_l (by omega), get_app_l (by omega)]⟩
    · have hk := slot_lt h3
      rw [if_neg (by omega), slot_app_r]
      refine ⟨h3, ?_⟩
      rw [hl, get_app_r, get_app_r, get_app_l (by omega)]
    · rw [if_pos rfl, slot_app_l hi]
      refine ⟨q, ?_⟩
      have z1 : (σ ++ (τ ++ [some v]))[σ.length + τ.length]? = some (some v) := by
        rw [get_app_r]
        simp
      have z2 : (σ ++ τ)[i]? = some (some v) := by
        rw [get_app_l (by omega)]
        exact hv
      rw [hl, hg, z1, z2]
  · rcases key j o1 z1 with ⟨h1, h2, h3⟩ | ⟨k1, rfl, h3⟩ | ⟨rfl, rfl⟩ <;> rcases key k o2 z2 with ⟨g1, g2, g3⟩ | ⟨k2, rfl, g3⟩ | ⟨rfl, rfl⟩
    · rw [if_neg (by omega), if_neg (by omega)] at he
      exact he
    · have := slot_lt g3
      rw [if_neg (by omega), if_neg (by omega)] at he
      exact he
    · rw [if_neg (by omega), if_pos rfl] at he
      exact absurd he h2
    · have := slot_lt h3
      rw [if_neg (by omega), if_neg (by omega)] at he
      exact he
    · have := slot_lt h3
      have := slot_lt g3
      rw [if_neg (by omega), if_neg (by omega)] at he
      exact he
    · have := slot_lt h3
      rw [if_neg (by omega), if_pos rfl] at he
      omega
    · rw [if_pos rfl, if_neg (by omega)] at he
      exact absurd he.symm g2
    · have := slot_lt g3
      rw [if_pos rfl, if_neg (by omega)] at he
      omega
    · rfl
/-- the first of the further slots goes to a name's place (what was there is forgotten) -/
theorem Rp.unhd {w : V} {o : Option O} (r : Rp c H0 Fr H (σ ++ some w :: τ) (e ++ o :: g) as) (hl : e.length = σ.length) {i : Nat} (hi : i < e.length) (hv : σ[i]? = some (some w)) :
    ∃ as', Rp c H0 Fr H (σ ++ τ) (e.set i o ++ g) as' := by
  have hg : g.length = τ.length := by
    have := r.len
    simp at this
    omega
  have key : ∀ j o', slot (e.set i o ++ g) j = some o' → (j < e.length ∧ j ≠ i ∧ slot e j = some o') ∨ (j = i ∧ o = some o') ∨ (∃ k, j = e.length + k ∧ slot g k = some o') := fun j o' z => by
    by_cases hj : j < e.length
    · rw [slot_app_l (by simpa using hj), slot_set hi] at z
      split at z
      · exact .inr (.inl ⟨by assumption, z⟩)
      · exact .inl ⟨hj, by assumption, z⟩
    · obtain ⟨k, rfl⟩ : ∃ k, j = e.length + k := ⟨j - e.length, by omega⟩
      have z : slot (e.set i o ++ g) ((e.set i o).length + k) = some o' := by simpa using z
      rw [slot_app_r] at z
      exact .inr (.inr ⟨k, rfl, z⟩)
  refine r.re (by simp [hl, hg]) (fun j => if j = i then e.length else if j < e.length then j else j + 1) (fun j o' z => ?_) (fun j k o1 o2 z1 z2 he => ?_)
  · rcases key j o' z with ⟨h1, h2, h3⟩ | ⟨rfl, rfl⟩ | ⟨k, rfl, h3⟩
    · rw [if_neg h2, if_pos h1, slot_app_l h1]
      exact ⟨h3, by rw [get_app_l (by omega), get_app_l (by omega)]⟩
    · rw [if_pos rfl]
      have z0 : slot (e ++ some o' :: g) (e.length + 0) = slot (some o' :: g) 0 := slot_app_r
      refine ⟨z0, ?_⟩
      rw [get_app_l (by omega), hv, hl]
      simp
    · have hk := slot_lt h3
      rw [if_neg (by omega), if_neg (by omega)]
      have z0 : slot (e ++ o :: g) (e.length + (k + 1)) = slot (o :: g) (k + 1) := slot_app_r
      refine ⟨z0.trans h3, ?_⟩
      rw [hl, get_app_r, Nat.add_assoc, get_app_r]
      rfl
  · rcases key j o1 z1 with ⟨h1, h2, h3⟩ | ⟨rfl, _⟩ | ⟨k1, rfl, h3⟩ <;> rcases key k o2 z2 with ⟨g1, g2, g3⟩ | ⟨rfl, _⟩ | ⟨k2, rfl, g3⟩
    · rw [if_neg h2, if_pos h1, if_neg g2, if_pos g1] at he
      exact he
    · rw [if_neg h2, if_pos h1, if_pos rfl] at he
      omega
    · rw [if_neg h2, if_pos h1, if_neg (by omega), if_neg (by omega)] at he
      omega
    · rw [if_neg g2, if_pos g1, if_pos rfl] at he
      omega
    · rfl
    · rw [if_pos rfl, if_neg (by omega), if_neg (by omega)] at he
      omega
    · rw [if_neg g2, if_pos g1, if_neg (by omega), if_neg (by omega)] at he
      omega
    · rw [if_pos rfl, if_neg (by omega), if_neg (by omega)] at he
      omega
    · rw [if_neg (by omega), if_neg (by omega), if_neg (by omega), if_neg (by omega)] at he
      omega
/-- .. or away -/
theorem Rp.unhd0 {w : Option V} {o : Option O} (r : Rp c H0 Fr H (σ ++ w :: τ) (e ++ o :: g) as) (hl : e.length = σ.length) : ∃ as', Rp c H0 Fr H (σ ++ τ) (e ++ g) as' := by
  have hg : g.length = τ.length := by
    have := r.len
    simp at this
    omega
  have key : ∀ j o', slot (e ++ g) j = some o' → (j < e.length ∧ slot e j = some o') ∨ (∃ k, j = e.length + k ∧ slot g k = some o') := fun j o' z => by
    by_cases hj : j < e.length
    · rw [slot_app_l hj] at z
      exact .inl ⟨hj, z⟩
    · obtain ⟨k, rfl⟩ : ∃ k, j = e.length + k := ⟨j - e.length, by omega⟩
      rw [slot_app_r] at z
      exact .inr ⟨k, rfl, z⟩
  refine r.re (by simp [hl, hg]) (fun j => if j < e.length then j else j + 1) (fun j o' z => ?_) (fun j k o1 o2 z1 z2 he => ?_)
  · rcases key j o' z with ⟨h1, h3⟩ | ⟨k, rfl, h3⟩
    · rw [if_pos h1, slot_app_l h1]
      exact ⟨h3, by rw [get_app_l (by omega), get_app_l (by omega)]⟩
    · rw [if_neg (by omega)]
      have z0 : slot (e ++ o :: g) (e.length + (k + 1)) = slot (o :: g) (k + 1) := slot_app_r
      refine ⟨z0.trans h3, ?_⟩
      rw [hl, get_app_r, Nat.add_assoc, get_app_r]
      rfl
  · split at he <;> split at he <;> omega
open Classical in
/-- the frame of a callee: the caller's, and what the caller's names own -/
noncomputable def frC (Fr H : Hp) (n : Nat) (as : Nat → List Addr) : Hp := fun b => if ∃ i, i < n ∧ b ∈ as i then H b else Fr b
theorem frC_in {Fr H : Hp} {n : Nat} {as : Nat → List Addr} {b : Addr} {i : Nat} (hi : i < n) (h : b ∈ as i) : frC Fr H n as b = H b := if_pos ⟨i, hi, h⟩
theorem frC_out {Fr H : Hp} {n : Nat} {as : Nat → List Addr} {b : Addr} (h : ∀ i, i < n → b ∉ as i) : frC Fr H n as b = Fr b := if_neg fun ⟨i, hi, q⟩ => h i hi q
/-- the callee's part -/
theorem Rp.callee (r : Rp c H0 Fr H (σ ++ τ) (e ++ g) as) (hl : e.length = σ.length) : Rp c H0 (frC Fr H e.length as) H τ g (fun i => as (e.length + i)) := by
  have hg : g.length = τ.length := by
    have := r.len
    simp at this
    omega
  refine ⟨hg, r.sub, fun b o h => ?_, fun i o q => ?_, fun i a ha => ?_, fun i j a ha hj => ?_, fun i => r.nd _, fun i q => r.emp _ (by rw [slot_app_r]; exact q), r.tab.re (Same.refl _) (fun _ _ => rfl) r.tab.n0 (fun p q => by rw [frC_out fun i _ => r.tab.na p q i]; exact r.tab.nF p q) fun p q i => r.tab.na p q _⟩
  · by_cases z : ∃ i, i < e.length ∧ b ∈ as i
    · obtain ⟨i, hi, hb⟩ := z
      rw [frC_in hi hb] at h
      exact ⟨h, (r.off i b hb).1⟩
    · rw [frC_out fun i hi q => z ⟨i, hi, q⟩] at h
      exact r.fr b o h
  · obtain ⟨v, h1, h2⟩ := r.own (e.length + i) o (by rw [slot_app_r]; exact q)
    rw [hl, get_app_r] at h1
    exact ⟨v, h1, h2⟩
  · refine ⟨(r.off _ a ha).1, ?_⟩
    rw [frC_out fun j hj q => by
      have := r.sep _ _ a ha q
      omega]
    exact (r.off _ a ha).2
  · have := r.sep _ _ a ha hj
    omega
/-- the two parts again, behind a call: G the callee's frame then, G2 what the caller wants of its own -/
theorem Rp.again (r : Rp c H0 Fr H (σ ++ τ) (e ++ g) as) (hl : e.length = σ.length) {H1 G G2 H' : Hp} {τ' : St} {g' : Env} {as' : Nat → List Addr} (s : Same H0 H1) (r' : Rp c H1 G H' τ' g' as')
    (hG : ∀ b o, frC Fr H e.length as b = some o → G b = some o) (hG2 : ∀ b o, G2 b = some o → G b = some o) (hG3 : ∀ i a, i < e.length → a ∈ as i → G2 a = none) : ∃ as2, Rp c H1 G2 H' (σ ++ τ') (e ++ g') as2 := by
  have keep : ∀ i a, i < e.length → a ∈ as i → H' a = H a ∧ H1 a = none := fun i a hi ha => by
    obtain ⟨x, hx⟩ := r.here ha
    have z := r'.fr a x (hG a x (by rw [frC_in hi ha]; exact hx))
    exact ⟨z.1.trans hx.symm, z.2⟩
  have apart : ∀ i j a, i < e.length → a ∈ as i → a ∉ as' j := fun i j a hi ha hj => by
    obtain ⟨x, hx⟩ := r.here ha
    have z := hG a x (by rw [frC_in hi ha]; exact hx)
    rw [(r'.off j a hj).2] at z
    cases z
  refine ⟨fun i => if i < e.length then as i else as' (i - e.length), by simp [hl, r'.len], r'.sub, fun b o h => r'.fr b o (hG2 b o h), fun i o q => ?_, fun i a ha => ?_, fun i j a ha hj => ?_, fun i => ?_, fun i q => ?_, r'.tab.re (Same.refl _) (fun _ _ => rfl) r'.tab.n0 (fun p q => ?_) fun p q i z => ?_⟩
  · by_cases hi : i < e.length
    · rw [slot_app_l hi] at q
      obtain ⟨v, h1, h2⟩ := r.own i o (by rw [slot_app_l hi]; exact q)
      rw [get_app_l (by omega)] at h1
      refine ⟨v, by rw [get_app_l (by omega)]; exact h1, ?_⟩
      show OwnR c H1 H' o v (if i < e.length then as i else as' (i - e.length))
      rw [if_pos hi]
      exact OwnR.mono s o v _ (fun a ha => (keep i a hi ha).1) h2
    · obtain ⟨k, rfl⟩ : ∃ k, i = e.length + k := ⟨i - e.length, by omega⟩
      rw [slot_app_r] at q
      obtain ⟨v, h1, h2⟩ := r'.own k o q
      refine ⟨v, by rw [hl, get_app_r]; exact h1, ?_⟩
      show OwnR c H1 H' o v (if e.length + k < e.length then as (e.length + k) else as' (e.length + k - e.length))
      rw [if_neg (by omega), Nat.add_sub_cancel_left]
      exact h2
  · by_cases hi : i < e.length
    · simp only [if_pos hi] at ha
      exact ⟨(keep i a hi ha).2, hG3 i a hi ha⟩
    · simp only [if_neg hi] at ha
      refine ⟨(r'.off _ a ha).1, ?_⟩
      cases z : G2 a with
      | none => rfl
      | some x =>
        have := hG2 a x z
        rw [(r'.off _ a ha).2] at this
        cases this
  · by_cases hi : i < e.length <;> by_cases hk : j < e.length
    · simp only [if_pos hi] at ha
      simp only [if_pos hk] at hj
      exact r.sep i j a ha hj
    · simp only [if_pos hi] at ha
      simp only [if_neg hk] at hj
      exact absurd hj (apart i _ a hi ha)
    · simp only [if_neg hi] at ha
      simp only [if_pos hk] at hj
      exact absurd ha (apart j _ a hk hj)
    · simp only [if_neg hi] at ha
      simp only [if_neg hk] at hj
      have := r'.sep _ _ a ha hj
      omega
  · by_cases hi : i < e.length
    · simp only [if_pos hi]
      exact r.nd i
    · simp only [if_neg hi]
      exact r'.nd _
  · by_cases hi : i < e.length
    · simp only [if_pos hi]
      rw [slot_app_l hi] at q
      exact r.emp i (by rw [slot_app_l hi]; exact q)
    · simp only [if_neg hi]
      obtain ⟨k, rfl⟩ : ∃ k, i = e.length + k := ⟨i - e.length, by omega⟩
      rw [slot_app_r] at q
      rw [Nat.add_sub_cancel_left]
      exact r'.emp k q
  · cases z : G2 p.1 with
    | none => rfl
    | some o =>
      have := hG2 _ _ z
      rw [r'.tab.nF p q] at this
      cases this
  · by_cases hi : i < e.length
    · simp only [if_pos hi] at z
      exact r.tab.na p q i z
    · simp only [if_neg hi] at z
      exact r'.tab.na p q _ z
theorem Rp.cutTail (r : Rp c H0 Fr H (σ ++ τ) (e ++ g) as) (hl : e.length = σ.length) : ∃ as', Rp c H0 Fr H σ e as' := by
  refine r.re hl id (fun j o z => ?_) (fun j k o1 o2 _ _ he => he)
  have hj := slot_lt z
  exact ⟨by rw [id, slot_app_l hj]; exact z, by rw [id, get_app_l (by omega)]⟩
theorem Rp.snocAll : ∀ {l : List D} {ws : List V} {σ : St} {e : Env} {as : Nat → List Addr}, Rp c H0 Fr H σ e as → Dats c H0 l ws → ∃ as', Rp c H0 Fr H (σ ++ ws.map some) (e ++ (l.map O.sh).map some) as'
  | [], ws, σ, e, as, r, h => by
    have h : ws = [] := h
    subst h
    exact ⟨as, by simpa using r⟩
  | d :: ds, _, σ, e, as, r, ⟨v, w, h1, h2, h3⟩ => by
    subst h1
    obtain ⟨as', r'⟩ := Rp.snocAll (r.snocSh h2) h3
    exact ⟨as', by simpa using r'⟩
theorem Kps.mono {H1 : Hp} (s : Same H0 H1) : ∀ {vs : List V} {rs : List R}, Kps c H0 σ vs rs → Kps c H1 σ vs rs
  | [], rs, h => h
  | v :: vs, rs, ⟨r, qs, h1, h2, h3⟩ => ⟨r, qs, h1, h2.mono s, Kps.mono s h3⟩
theorem args_ok : ∀ {rs : List R} {md : List Md} {vs : List V} {os : List O} {e e2 g : Env} {τ : St} {H0 : Hp} {as : Nat → List Addr}, Rp c H0 Fr H (σ ++ τ) (e ++ g) as → e.length = σ.length → Kps c H0 σ vs rs → asArgs md rs e = some (os, e2) →
    ∃ H1 as', Same H0 H1 ∧ Rp c H1 Fr H (σ ++ (τ ++ vs.map some)) (e2 ++ (g ++ os.map some)) as' ∧ e2.length = e.length ∧ os.length = vs.length
  | [], md, vs, os, e, e2, g, τ, H0, as, r, hl, ks, h => by
    cases vs with
    | nil =>
      cases h
      exact ⟨H0, as, Same.refl _, by simpa using r, rfl, rfl⟩
    | cons v vs =>
      obtain ⟨_, _, z, _⟩ := ks
      cases z
  | ra :: rs, md, vs, os, e, e2, g, τ, H0, as, r, hl, ks, h => by
    cases vs with
    | nil => cases ks
    | cons v vs =>
      obtain ⟨r1, qs, z, k1, ks⟩ := ks
      cases z
      have h : (match asArg (md.headD .lk) ra e with
        | some (o, e1) => (match asArgs md.tail rs e1 with
          | some (os, e2) => some (o :: os, e2)
          | none => none)
        | none => none) = some (os, e2) := h
      cases q : asArg (md.headD .lk) ra e with
      | none =>
        rw [q] at h
        cases h
      | some p =>
        obtain ⟨o, e1⟩ := p
        rw [q] at h
        have h : (match asArgs md.tail rs e1 with
          | some (os, e2) => some (o :: os, e2)
          | none => none) = some (os, e2) := h
        cases q2 : asArgs md.tail rs e1 with
        | none =>
          rw [q2] at h
          cases h
        | some p2 =>
          obtain ⟨os1, e3⟩ := p2
          rw [q2] at h
          cases h
          have step : ∃ H1 as', Same H0 H1 ∧ Rp c H1 Fr H (σ ++ (τ ++ [some v])) (e1 ++ (g ++ [some o])) as' ∧ e1.length = e.length := by
            have lk : ∀ {d : D} {e1' : Env}, leak ra e = .ok d e1' → ∃ H1 as', Same H0 H1 ∧ Rp c H1 Fr H (σ ++ (τ ++ [some v])) (e1' ++ (g ++ [some (.sh d)])) as' ∧ e1'.length = e.length := fun {d e1'} hz => by
              cases ra with
              | d x =>
                cases hz
                exact ⟨H0, as, Same.refl _, by simpa using r.snocSh k1, rfl⟩
              | sl i =>
                have hz : (match slot e i with
                  | some o => Rs.ok o.frz (e.set i (some (.sh o.frz)))
                  | none => .bad) = .ok d e1' := hz
                cases qs : slot e i with
                | none =>
                  rw [qs] at hz
                  cases hz
                | some o' =>
                  rw [qs] at hz
                  cases hz
                  have hi := slot_lt qs
                  obtain ⟨H1, w, s1, r1, hw, hd⟩ := r.freeze (i := i) (by rw [slot_app_l hi]; exact qs)
                  have k1 : σ[i]? = some (some v) := k1
                  rw [get_app_l (by omega), k1] at hw
                  cases hw
                  rw [List.set_append_left _ _ hi] at r1
                  exact ⟨H1, _, s1, by simpa using r1.snocSh hd, by simp⟩
              | ow o' => exact k1.elim
            unfold asArg at q
            split at q
            · rename_i i
              split at q
              · cases q
                rename_i qs
                obtain ⟨as', r'⟩ := r.move hl qs k1
                exact ⟨H0, as', Same.refl _, r', by simp⟩
              · cases q
            · split at q
              · cases q
                rename_i hz
                exact lk hz
              · cases q
          obtain ⟨H1, as1, s1, r1, hl1⟩ := step
          have ks' : Kps c H1 σ vs rs := ks.mono s1
          obtain ⟨H2, as2, s2, r2, hl2, hn⟩ := args_ok (τ := τ ++ [some v]) (g := g ++ [some o]) r1 (by omega) ks' q2
          exact ⟨H2, as2, s1.trans s2, by simpa using r2, by omega, by simp [hn]⟩
theorem back_len : ∀ (md : List Md) (rs : List R) (os : List O) (e : Env), (back md rs os e).length = e.length
  | md, [], os, e => by unfold back; rfl
  | md, r :: rs, [], e => by unfold back; rfl
  | md, r :: rs, o :: os, e => by
    unfold back
    split
    · rw [back_len]; simp
    · rw [back_len]
theorem back_ok : ∀ {rs : List R} {md : List Md} {vs : List V} {os : List O} {e : Env} {τ : St} {K0 : Hp} {as : Nat → List Addr}, Rp c H0 Fr H (σ ++ (vs.map some ++ τ)) (e ++ os.map some) as → e.length = σ.length → Kps c K0 σ vs rs → rs.length ≤ os.length →
    ∃ as' g, Rp c H0 Fr H (σ ++ τ) (back md rs os e ++ g) as'
  | [], md, vs, os, e, τ, K0, as, r, hl, ks, hn => by
    cases vs with
    | nil => exact ⟨as, os.map some, by simpa [back] using r⟩
    | cons v vs =>
      obtain ⟨_, _, z, _⟩ := ks
      cases z
  | ra :: rs, md, vs, os, e, τ, K0, as, r, hl, ks, hn => by
    cases vs with
    | nil => cases ks
    | cons v vs =>
      obtain ⟨r1, qs, z, k1, ks⟩ := ks
      cases z
      cases os with
      | nil => simp at hn
      | cons o os =>
        have r' : Rp c H0 Fr H (σ ++ some v :: (vs.map some ++ τ)) (e ++ some o :: os.map some) as := by simpa using r
        have hn' : rs.length ≤ os.length := by simpa using hn
        unfold back
        split
        · rename_i i q1
          have k1 : σ[i]? = some (some v) := k1
          have hi : i < e.length := by
            have := (List.getElem?_eq_some_iff.mp k1).1
            omega
          obtain ⟨as1, r1⟩ := r'.unhd hl hi k1
          exact back_ok (e := e.set i (some o)) r1 (by simp [hl]) ks hn'
        · obtain ⟨as1, r1⟩ := r'.unhd0 hl
          exact back_ok r1 hl ks hn'
end
/-! ### a def's promise -/
def spF (t : Tb) (c : Cn) (F : Fn) (n : Nat) : Sp := fun vs H Q E => vs.length = n ∧ ∃ (os : List O) (H0 Fr : Hp) (as : Nat → List Addr), Rp c H0 Fr H (vs.map some) (os.map some) as ∧
  match F os with
  | .rt o os' => ∀ v H1 H', Same H0 H1 → Rp1 c H1 Fr H' (vs.map some) ((mergeO os os').map some) v o → Q v H'
  | .ex k p os' => ∀ H1 H' as' cls dx, Same H0 H1 → Rp c H1 Fr H' (vs.map some) ((mergeO os os').map some) as' → ExA t c H1 H' k p cls dx → E cls dx H'
  | .bad => False
theorem Kps.len {c : Cn} {H0 : Hp} {σ : St} : ∀ {vs : List V} {rs : List R}, Kps c H0 σ vs rs → rs.length = vs.length
  | [], rs, h => by
    have h : rs = [] := h
    rw [h]
    rfl
  | v :: vs, rs, ⟨r, qs, h1, _, h3⟩ => by
    subst h1
    simp [Kps.len h3]
/-- the callee runs -/
theorem call_po {t : Tb} {c : Cn} {W : WX} {F : Fn} {md : List Md} {dfl : List D} {n : Nat} {ms : List (M R)} {σ : St} {H : Hp} {Q : VK} {dvs : List V} (hd : ∀ H, Dats c H dfl dvs) (hn : ms.length + dfl.length = n)
    {e : Env} {H0 Fr : Hp} {as : Nat → List Addr} (rp : Rp c H0 Fr H σ e as) (po : Po t c W Fr σ H0 (rrR c Fr σ) Q (mCall F md dfl ms e)) : Po t c W Fr σ H0 (rrRs c Fr σ) (fun vs H1 => spF t c F n (vs ++ dvs) H1 Q (fun cls d H => W cls d σ H)) (mRs ms e) := by
  have hlen : ∀ (ms : List (M R)) (e : Env) (rs : List R) (e1 : Env), mRs ms e = .ok rs e1 → rs.length = ms.length := fun ms => by
    induction ms with
    | nil =>
      intro e rs e1 h
      cases h
      rfl
    | cons m ms ih =>
      intro e rs e1 h
      have h : andThen (m e) (fun r e1 => andThen (mRs ms e1) fun rs e2 => .ok (nrm r :: rs) e2) = .ok rs e1 := h
      cases q1 : m e with
      | ok r e2 =>
        rw [q1] at h
        have h : andThen (mRs ms e2) (fun rs e2 => .ok (nrm r :: rs) e2) = .ok rs e1 := h
        cases q2 : mRs ms e2 with
        | ok rs2 e3 =>
          rw [q2] at h
          cases h
          simp [ih _ _ _ q2]
        | ex _ _ _ =>
          rw [q2] at h
          cases h
        | bad =>
          rw [q2] at h
          cases h
      | ex _ _ _ =>
        rw [q1] at h
        cases h
      | bad =>
        rw [q1] at h
        cases h
  have po : Po t c W Fr σ H0 (rrR c Fr σ) Q (andThen (mRs ms e) fun rs e1 => match asArgs md rs e1 with
    | some (os, e2) => (match F (os ++ dfl.map O.sh) with
      | .rt o os' => .ok (ofRes o) (back md rs (mergeO (os ++ dfl.map O.sh) os') e2)
      | .ex c p os' => .ex c p (back md rs (mergeO (os ++ dfl.map O.sh) os') e2)
      | .bad => .bad)
    | none => .bad) := po
  cases qm : mRs ms e with
  | ex k p e1 =>
    rw [qm] at po
    exact po
  | bad =>
    rw [qm] at po
    exact po
  | ok rs e1 =>
    have hrs := hlen _ _ _ _ qm
    rw [qm] at po
    intro vs H1 H' s ⟨⟨as1, rp1⟩, ks⟩
    have po := Po.mono s po
    have po : Po t c W Fr σ H1 (rrR c Fr σ) Q (match asArgs md rs e1 with
      | some (os, e2) => (match F (os ++ dfl.map O.sh) with
        | .rt o os' => .ok (ofRes o) (back md rs (mergeO (os ++ dfl.map O.sh) os') e2)
        | .ex c p os' => .ex c p (back md rs (mergeO (os ++ dfl.map O.sh) os') e2)
        | .bad => .bad)
      | none => .bad) := po
    cases qa : asArgs md rs e1 with
    | none =>
      rw [qa] at po
      exact po.elim
    | some pr =>
      obtain ⟨os, e2⟩ := pr
      rw [qa] at po
      obtain ⟨H2, as2, s2, rp2, hl2, hlo⟩ := args_ok (g := []) (τ := []) (by simpa using rp1) rp1.len ks qa
      have hl : e2.length = σ.length := by rw [hl2]; exact rp1.len
      have hd2 : Dats c H2 dfl dvs := hd H2
      obtain ⟨as3, rp3⟩ := rp2.snocAll hd2
      have rp3 : Rp c H2 Fr H' (σ ++ (vs ++ dvs).map some) (e2 ++ (os ++ dfl.map O.sh).map some) as3 := by simpa using rp3
      have po := Po.mono s2 po
      have hvs : (vs ++ dvs).length = n := by
        rw [List.length_append, ← Kps.len ks, hrs, hd2.len]
        exact hn
      refine ⟨hvs, os ++ dfl.map O.sh, H2, frC Fr H' e2.length as3, _, rp3.callee hl, ?_⟩
      have po : Po t c W Fr σ H2 (rrR c Fr σ) Q (match F (os ++ dfl.map O.sh) with
        | .rt o os' => .ok (ofRes o) (back md rs (mergeO (os ++ dfl.map O.sh) os') e2)
        | .ex c p os' => .ex c p (back md rs (mergeO (os ++ dfl.map O.sh) os') e2)
        | .bad => .bad) := po
      have fin : ∀ {H3 H'' : Hp} {bs : List Addr} {os2 : List O} {as4 : Nat → List Addr}, Same H2 H3 → (∀ a ∈ bs, H3 a = none ∧ frC Fr H' e2.length as3 a = none) → Rp c H3 (addF (frC Fr H' e2.length as3) H'' bs) H'' ((vs ++ dvs).map some) (os2.map some) as4 →
          ∃ as5, Rp c H3 (addF Fr H'' bs) H'' σ (back md rs os2 e2) as5 := fun {H3 H'' bs os2 as4} s3 off r4 => by
        have frz : ∀ b o, Fr b = some o → frC Fr H' e2.length as3 b = some o := fun b o h => by
          rw [frC_out fun i hi hb => by
            rw [(rp3.off i b hb).2] at h
            cases h]
          exact h
        have nin : ∀ {i a}, i < e2.length → a ∈ as3 i → a ∉ bs := fun {i a} hi ha hb => by
          have z := (off a hb).2
          rw [frC_in hi ha] at z
          obtain ⟨x, hx⟩ := rp3.here ha
          rw [hx] at z
          cases z
        obtain ⟨as5, r5⟩ := rp3.again hl s3 r4 (G2 := addF Fr H'' bs) (fun b o h => by
            have hb : b ∉ bs := fun q => by
              rw [(off b q).2] at h
              cases h
            rw [addF_out hb]
            exact h) (fun b o h => by
            by_cases hb : b ∈ bs
            · rw [addF_in hb] at h ⊢
              exact h
            · rw [addF_out hb] at h ⊢
              exact frz b o h) (fun i a hi ha => by
            rw [addF_out (nin hi ha)]
            exact (rp3.off i a ha).2)
        have hlen2 : rs.length ≤ os2.length := by
          have z := r4.len
          simp at z
          have z2 := Kps.len ks
          omega
        obtain ⟨as6, g, r6⟩ := back_ok (md := md) (vs := vs) (τ := dvs.map some) (by simpa using r5) hl ks hlen2
        exact r6.cutTail (by rw [back_len]; exact hl)
      cases qF : F (os ++ dfl.map O.sh) with
      | rt o os' =>
        rw [qF] at po
        intro v H3 H'' s3 ⟨bs, as4, ow, nd, off, r4⟩
        obtain ⟨as5, r5⟩ := fin s3 off r4
        have r1 : Rp1 c H3 Fr H'' σ (back md rs (mergeO (os ++ dfl.map O.sh) os') e2) v o := ⟨bs, as5, ow, nd, fun a ha => ⟨(off a ha).1, by
          cases z : Fr a with
          | none => rfl
          | some x =>
            have := (off a ha).2
            rw [frC_out fun i hi hb => by
              rw [(rp3.off i a hb).2] at z
              cases z] at this
            rw [this] at z
            cases z⟩, r5⟩
        refine po v H3 H'' s3 ?_
        cases o with
        | sh d => exact ⟨r1.rp, ow.2⟩
        | fl l => exact r1
        | fd l => exact r1
        | fo k l => exact r1
      | ex k p os' =>
        rw [qF] at po
        intro H3 H'' as4 cls dx s3 r4 xa
        obtain ⟨as5, r5⟩ := fin (bs := []) s3 (fun a ha => by cases ha) (by rw [addF_nil]; exact r4)
        rw [addF_nil] at r5
        exact po H3 H'' as5 cls dx s3 r5 xa
      | bad =>
        rw [qF] at po
        exact po.elim
theorem call_ok {t : Tb} {c : Cn} {W : WX} {F : Fn} {md : List Md} {dfl : List D} {n : Nat} {ms : List (M R)} {σ : St} {H : Hp} {Q : VK} {dvs : List V} (hd : ∀ H, Dats c H dfl dvs) (hn : ms.length + dfl.length = n)
    (q : tG t c W (rrR c) (mCall F md dfl ms) σ H Q) : tG t c W (rrRs c) (mRs ms) σ H fun vs H1 => spF t c F n (vs ++ dvs) H1 Q (fun cls d H => W cls d σ H) :=
  let ⟨e, H0, Fr, as, rp, po⟩ := q
  ⟨e, H0, Fr, as, rp, call_po hd hn rp po⟩
/-- what is known of the answer beside -/
theorem Po.also {α β : Type} {t : Tb} {c : Cn} {W : WX} {RR : Hp → Hp → Env → β → α → Prop} {Q R : β → Hp → Prop} {Fr H0 : Hp} {σ : St} {x : Rs α} (h : Po t c W Fr σ H0 RR Q x) (k : ∀ a e b H1 H', Same H0 H1 → RR H1 H' e b a → R b H') : Po t c W Fr σ H0 RR (fun b H' => R b H' ∧ Q b H') x := by
  cases x with
  | ok a e => exact fun b H1 H' s rr => ⟨k a e b H1 H' s rr, h b H1 H' s rr⟩
  | ex k' p e => exact h
  | bad => exact h
/-! ### calls where no repr is under way -/
/-- what a def promises where nothing is being shown -/
structure FnQ (P : Program) (w : World) (K : PySem.W.Frag) (mg : Str → Option Value) (base : Heap) (CX : CXT) (k : Nat) (f : Addr) (fd : FuncData) (ps : List Str) (sp : Sp) : Prop where
  len : ∀ (vs : List V) (H : Hp) (Q : VK) (E : XK), sp vs H Q E → vs.length = ps.length
  run : ∀ (B : Around) (out : List PySem.Env) (st : Shared) (H : Hp) (ar : Args) (us : List Value) (vs : List V) (Q : VK) (E : XK), Room k B → B.guards = some [] → Env0 P w K mg base B out st H → BindsTo st fd ar (ps.zip us) → Vals vs us → sp vs H Q E →
    codeAny (model P w) B (.call (.ref f) ar) (CR CX out P w H st Q E) st
theorem FnQ.of {P : Program} {w : World} {K : PySem.W.Frag} {mg : Str → Option Value} {base : Heap} {CX : CXT} {k : Nat} {f : Addr} {fd : FuncData} {ps : List Str} {sp : Sp} (G : FnOk P w K mg base CX k f fd ps sp) : FnQ P w K mg base CX k f fd ps sp :=
  ⟨G.len, fun B out st H ar us vs Q E hr _ => G.run B out st H ar us vs Q E hr⟩
section
variable {X : Cx} {CX : CXT} {k : Nat} {f : Addr} {fd : FuncData} {ps : List Str} {sp : Sp} {ds : List Value} {dvs : List V} {E : St → XK}
theorem run_q {pn : List (Addr × Obj)} {σ : St} {H : Hp} {st : Shared} {Q : VK} {us : List Value} {vs : List V} (G : FnQ X.prog X.w X.K X.mg X.base CX k f fd ps sp) (hr : Room k X.A) (hu : X.A.guards = some []) (hb : Binds X.K fd ps ds) (hd : Vals dvs ds) (hx : PassesAt CX X σ (E σ)) (I : Inv X pn σ H st) (rel : Vals vs us)
    (asked : sp (vs ++ dvs) H Q (E σ)) : wpAny (model X.prog X.w) X.A (call (.ref f) us) (EP X pn σ Q) X.xe st := by
  have rel2 : Vals (vs ++ dvs) (us ++ ds) := rel.append hd
  have e1 := G.len _ _ _ _ asked
  rw [rel2.length] at e1
  have go := G.run X.A X.stack st H ⟨us, []⟩ (us ++ ds) (vs ++ dvs) Q (E σ) hr hu I.env0 (hb st us I.kIn e1) rel2 asked
  refine wpAny_call (codeAny_mono go fun ans st2 got => ?_)
  match ans, got with
  | .error er, got => exact hx pn H st er st2 I got
  | .ok (.ret u), got => exact I.after got
  | .ok .next, got => exact got.elim
  | .ok .brk, got => exact got.elim
  | .ok .cont, got => exact got.elim
theorem pe_callQ {x : Str} {a : Expr} {es : List Expr} {ta : TA} {p pos : Pos} (G : FnQ X.prog X.w X.K X.mg X.base CX k f fd ps sp) (hr : Room k X.A) (hu : X.A.guards = some []) (hg : Gl X x) (hm : X.mg x = some (.ref f)) (hk : PySem.W.keepIn X.K (.ref f) = true) (hb : Binds X.K fd ps ds) (hd : Vals dvs ds) (hx : ∀ σ, PassesAt CX X σ (E σ))
    (ha : PA X (a :: es) ta) (hdb : (x == ("__debug__" : Str)) = false) (he : starEach (a :: es) X.env = (false, eval a X.env) :: starEach es X.env) (hpl : (backTo pos (starEach es X.env)).any (·.1) = false) : PE X (.Call (.Name x p) (a :: es) [] pos) (tCallSD sp dvs E ta) :=
  ⟨fun pn st σ H Q I asked => wpAny_Call_Name_kw (ld_glob I hg hm (PySem.W.callWith_K (h₀ := X.base) I.ok.mod.kin hk (thn (ha.run pos pn st σ H _ I asked) fun us s1 ⟨vs, H1, I1, rel, q⟩ => ⟨I1.kIn, run_q G hr hu hb hd (hx σ) I1 rel q⟩) he hpl) hdb)⟩
end
section
variable {X : Cx} {t : Tb} {W : WX} {k n : Nat} {f : Addr} {fd : FuncData} {ps : List Str} {Z : Fn} {x : Str} {p pos : Pos} {a : Expr} {es : List Expr} {ms : List (M R)} {ds : List Value} {dvs : List V} {dfl : List D}
abbrev FO (P : Program) (w : World) (K : PySem.W.Frag) (mg : Str → Option Value) (base : Heap) (t : Tb) (k : Nat) (f : Addr) (fd : FuncData) (ps : List Str) (Z : Fn) (n : Nat) : Prop := FnQ P w K mg base (L2.CX P w) k f fd ps (spF t ⟨K, t.cls, t.fld, t.tabs, t.ex, t.exM, t.exR⟩ Z n)
theorem se_call (G : FO X.prog X.w X.K X.mg X.base t k f fd ps Z n) (hr : Room k X.A) (hu : X.A.guards = some []) (hg : Gl X x) (hm : X.mg x = some (.ref f)) (hk : PySem.W.keepIn X.K (.ref f) = true) (hb : Binds X.K fd ps ds) (hd : Vals dvs ds) (hdd : ∀ H, Dats (cn X t) H dfl dvs) (tk : Takes X W) (md : List Md)
    (ha : SA X t W (a :: es) (mRs ms)) (hn : ms.length + dfl.length = n := by rfl) (hdb : (x == ("__debug__" : Str)) = false := by decide) (he : starEach (a :: es) X.env = (false, eval a X.env) :: starEach es X.env := by rfl) (hpl : (backTo pos (starEach es X.env)).any (·.1) = false := by rfl) :
    SE X t W (.Call (.Name x p) (a :: es) [] pos) (mCall Z md dfl ms) :=
  PE.imp (pe_callQ G hr hu hg hm hk hb hd (passAt tk) ha hdb he hpl) fun _ _ _ q => call_ok hdd hn q
end
end F
end

section
set_option Elab.async false
set_option linter.all false
set_option autoImplicit false
set_option maxRecDepth 100000
/-! F layer, part E: statements. -/
namespace F
open PySem PySem.Spec PyProof.Rows L2
/-- slots that the code never stores -/
def Prot (P : Nat → Bool) (σ σ' : St) : Prop := σ'.length = σ.length ∧ ∀ i, P i = true → σ'[i]? = σ[i]?
theorem Prot.refl {P : Nat → Bool} {σ : St} : Prot P σ σ := ⟨rfl, fun _ _ => rfl⟩
theorem Prot.trans {P : Nat → Bool} {σ σ' σ2 : St} (a : Prot P σ σ') (b : Prot P σ' σ2) : Prot P σ σ2 := ⟨b.1.trans a.1, fun i hi => (b.2 i hi).trans (a.2 i hi)⟩
theorem Prot.set {P : Nat → Bool} {σ : St} {i : Nat} {x : Option V} (h : P i = false) : Prot P σ (σ.set i x) := ⟨by simp, fun j hj => List.getElem?_set_ne fun z => by
  rw [z, hj] at h
  cases h⟩
def PoS (t : Tb) (c : Cn) (W : WX) (P : Nat → Bool) (Fr : Hp) (σ : St) (H0 : Hp) (D : Ends) : SR → Prop
  | .nx e => ∀ σ' H1 H' as, Same H0 H1 → Prot P σ σ' → Rp c H1 Fr H' σ' e as → D.nx σ' H'
  | .bk e => ∀ σ' H1 H' as, Same H0 H1 → Prot P σ σ' → Rp c H1 Fr H' σ' e as → D.bk σ' H'
  | .ct e => ∀ σ' H1 H' as, Same H0 H1 → Prot P σ σ' → Rp c H1 Fr H' σ' e as → D.ct σ' H'
  | .rt o e => ∀ v σ' H1 H', Same H0 H1 → Prot P σ σ' → Rp1 c H1 Fr H' σ' e v o → D.rt v H'
  | .ex k p e => ∀ σ' H1 H' as cls dx, Same H0 H1 → Prot P σ σ' → Rp c H1 Fr H' σ' e as → ExA t c H1 H' k p cls dx → W cls dx σ' H'
  | .bad => False
def tS (t : Tb) (c : Cn) (W : WX) (P : Nat → Bool) (m : MS) : TS := fun D σ H => ∃ (e : Env) (H0 Fr : Hp) (as : Nat → List Addr), Rp c H0 Fr H σ e as ∧ PoS t c W P Fr σ H0 D (m e)
abbrev SS (X : Cx) (t : Tb) (W : WX) (P : Nat → Bool) (st : Stmt) (m : MS) : Prop := PS X st (tS t (cn X t) W P m)
abbrev SSs (X : Cx) (t : Tb) (W : WX) (P : Nat → Bool) (st : List Stmt) (m : MS) : Prop := PSs X st (tS t (cn X t) W P m)
theorem PS.imp {X : Cx} {s : Stmt} {u u' : TS} (h : PS X s u) (k : ∀ D σ H, u' D σ H → u D σ H) : PS X s u' := ⟨fun pins s σ H D I q => h.run pins s σ H D I (k _ _ _ q)⟩
theorem PSs.imp {X : Cx} {s : List Stmt} {u u' : TS} (h : PSs X s u) (k : ∀ D σ H, u' D σ H → u D σ H) : PSs X s u' := ⟨fun pins s σ H D I q => h.run pins s σ H D I (k _ _ _ q)⟩
section
variable {t : Tb} {c : Cn} {W : WX} {P : Nat → Bool} {Fr H0 H1 : Hp} {σ σ' : St} {D : Ends}
theorem PoS.mono {x : SR} (s : Same H0 H1) (p : Prot P σ σ') (h : PoS t c W P Fr σ H0 D x) : PoS t c W P Fr σ' H1 D x := by
  cases x with
  | nx e => exact fun σ2 H2 H' as s2 p2 r => h σ2 H2 H' as (s.trans s2) (p.trans p2) r
  | bk e => exact fun σ2 H2 H' as s2 p2 r => h σ2 H2 H' as (s.trans s2) (p.trans p2) r
  | ct e => exact fun σ2 H2 H' as s2 p2 r => h σ2 H2 H' as (s.trans s2) (p.trans p2) r
  | rt o e => exact fun v σ2 H2 H' s2 p2 r => h v σ2 H2 H' (s.trans s2) (p.trans p2) r
  | ex k q e => exact fun σ2 H2 H' as cls dx s2 p2 r xa => h σ2 H2 H' as cls dx (s.trans s2) (p.trans p2) r xa
  | bad => exact h
/-- an expression ahead -/
theorem PoS.of {α β : Type} {RR : Hp → Hp → Env → β → α → Prop} {x : Rs α} {f : α → Env → SR} {k : β → Hp → Prop} (h : PoS t c W P Fr σ H0 D (sOf x f))
    (hk : ∀ (a : α) (e : Env) (b : β) (H1 H' : Hp), Same H0 H1 → RR H1 H' e b a → PoS t c W P Fr σ H1 D (f a e) → k b H') : Po t c W Fr σ H0 RR k x := by
  cases x with
  | ok a e1 => exact fun b H1 H' s rr => hk a e1 b H1 H' s rr (PoS.mono s Prot.refl h)
  | ex k' p e1 => exact fun H1 H' as cls dx s rp xa => h σ H1 H' as cls dx s Prot.refl rp xa
  | bad => exact h
theorem PoS.ofOS {γ : Type} {x : Option γ} {f : γ → SR} (h : PoS t c W P Fr σ H0 D (ofOS x f)) : ∃ a, x = some a ∧ PoS t c W P Fr σ H0 D (f a) := by
  cases x with
  | none => exact h.elim
  | some a => exact ⟨a, rfl, h⟩
theorem PoS.leak {H : Hp} {ra : R} {e1 : Env} {v : V} {f : F.D → Env → SR} (po : PoS t c W P Fr σ H0 D (sOf (leak ra e1) f)) (rr : RpR c H0 Fr H σ e1 v ra) :
    ∃ d e2 H2 as, leak ra e1 = .ok d e2 ∧ Same H0 H2 ∧ Rp c H2 Fr H σ e2 as ∧ Dat c H2 d v ∧ PoS t c W P Fr σ H2 D (f d e2) := by
  rcases leak_ok (e' := e1) rr with ⟨d, e2, q⟩ | q
  · rw [q] at po
    obtain ⟨H2, as, s, rp, hd⟩ := RpR.leak rr q
    exact ⟨d, e2, H2, as, q, s, rp, hd, PoS.mono s Prot.refl po⟩
  · rw [q] at po
    exact po.elim
theorem Rp.takeOut {H : Hp} {e : Env} {as : Nat → List Addr} (r : Rp c H0 Fr H σ e as) {i : Nat} {o : O} {v : V} (q : slot e i = some o) (hv : σ[i]? = some (some v)) : Rp1 c H0 Fr H σ (e.set i none) v o := by
  obtain ⟨w, h1, h2⟩ := r.own i o q
  rw [hv] at h1
  cases h1
  refine ⟨as i, setA as i [], h2, r.nd i, r.off i, ?_⟩
  have d := r.drop i
  refine ⟨d.len, d.sub, fun b x hb => ?_, d.own, fun j a ha => ?_, d.sep, d.nd, d.emp, d.tab.re (Same.refl _) (fun _ _ => rfl) d.tab.n0 (fun p q' => by rw [addF_out (r.tab.na p q' i)]; exact d.tab.nF p q') d.tab.na⟩
  · by_cases z : b ∈ as i
    · rw [addF_in z] at hb
      exact ⟨hb, (r.off i b z).1⟩
    · rw [addF_out z] at hb
      exact r.fr b x hb
  · obtain ⟨hj, ha⟩ := setA_mem ha
    refine ⟨(r.off j a ha).1, ?_⟩
    rw [addF_out fun z => hj (r.sep j i a ha z)]
    exact (r.off j a ha).2
end
section
variable {X : Cx} {t : Tb} {W : WX} {P : Nat → Bool} {st : Stmt} {rest : List Stmt} {m m1 m2 : MS} {a b : Expr} {ma mb : M R} {pos : Pos}
theorem sss_nil : SSs X t W P [] sPass := PSs.imp pss_nil fun D σ H ⟨e, H0, Fr, as, rp, po⟩ => po σ H0 H as (Same.refl _) Prot.refl rp
theorem sss_one (h : SS X t W P st m) : SSs X t W P [st] m := pss_one h
theorem sss_cons (h : SS X t W P st m1) (h2 : SSs X t W P rest m2) : SSs X t W P (st :: rest) (sSeq m1 m2) := by
  refine PSs.imp (pss_cons h h2) fun D σ H ⟨e, H0, Fr, as, rp, po⟩ => ?_
  refine ⟨e, H0, Fr, as, rp, ?_⟩
  have po : PoS t (cn X t) W P Fr σ H0 D (match m1 e with
    | .nx e1 => m2 e1
    | r => r) := po
  cases q : m1 e with
  | nx e1 =>
    rw [q] at po
    exact fun σ' H1 H' as s p r => ⟨e1, H1, Fr, as, r, PoS.mono s p po⟩
  | bk e1 =>
    rw [q] at po
    exact po
  | ct e1 =>
    rw [q] at po
    exact po
  | rt o e1 =>
    rw [q] at po
    exact po
  | ex k p e1 =>
    rw [q] at po
    exact po
  | bad =>
    rw [q] at po
    exact po
theorem ss_exp (h : SE X t W a ma) (hs : swapsWith a none pos.line X.env = pure false := by rfl) : SS X t W P (.Expr a pos) (sExp ma) := by
  refine PS.imp (ps_expr h hs) fun D σ H ⟨e, H0, Fr, as, rp, po⟩ => ?_
  refine ⟨e, H0, Fr, as, rp, PoS.of po fun r e1 v H1 H' s rr po => ?_⟩
  obtain ⟨as2, rp2⟩ := RpR.rp rr
  exact po σ H1 H' as2 (Same.refl _) Prot.refl rp2
theorem ret_read {D : Ends} {σ : St} {H : Hp} (q : tS t (cn X t) W P (sRet ma) D σ H) : tI X t W ma σ H fun v H' => D.rt v H' := by
  obtain ⟨e, H0, Fr, as, rp, po⟩ := q
  refine ⟨e, H0, Fr, as, rp, PoS.of po fun r e1 v H1 H' s rr po => ?_⟩
  cases r with
  | d x =>
    obtain ⟨⟨as2, rp2⟩, hd⟩ := rr
    exact po v σ H1 H' (Same.refl _) Prot.refl (rp2.sh1 hd)
  | ow o => exact po v σ H1 H' (Same.refl _) Prot.refl rr
  | sl i =>
    obtain ⟨⟨as2, rp2⟩, hv⟩ := rr
    have po : PoS t (cn X t) W P Fr σ H1 D (match slot e1 i with
      | some (.sh d) => .rt (.sh d) e1
      | some o => .rt o (e1.set i none)
      | none => .bad) := po
    cases q : slot e1 i with
    | none =>
      rw [q] at po
      exact po.elim
    | some o =>
      rw [q] at po
      cases o with
      | sh d =>
        obtain ⟨w, h1, h2⟩ := rp2.own i _ q
        rw [hv] at h1
        cases h1
        exact po v σ H1 H' (Same.refl _) Prot.refl (rp2.sh1 h2.2)
      | fl l => exact po v σ H1 H' (Same.refl _) Prot.refl (rp2.takeOut q hv)
      | fd l => exact po v σ H1 H' (Same.refl _) Prot.refl (rp2.takeOut q hv)
      | fo k l => exact po v σ H1 H' (Same.refl _) Prot.refl (rp2.takeOut q hv)
theorem ss_ret (h : SE X t W a ma) : SS X t W P (.Return (some a) pos) (sRet ma) := PS.imp (ps_ret h) fun D σ H q => ret_read q
theorem ss_if {c : Expr} {s1 s2 : List Stmt} {mc : M Bool} (h : SB X t W c mc) (h1 : SSs X t W P s1 m1) (h2 : SSs X t W P s2 m2) : SS X t W P (.If c s1 s2 pos) (sIf mc m1 m2) := by
  refine PS.imp (ps_if h h1 h2) fun D σ H ⟨e, H0, Fr, as, rp, po⟩ => ?_
  refine ⟨e, H0, Fr, as, rp, PoS.of po fun x e1 k H1 H' s ⟨ek, as2, rp2⟩ po => ?_⟩
  subst ek
  cases k with
  | true => exact ⟨e1, H1, Fr, as2, rp2, po⟩
  | false => exact ⟨e1, H1, Fr, as2, rp2, po⟩
/-- the store behind an answer -/
theorem set_ok {c : Cn} {i : Nat} (hi : P i = false) {σ : St} {H : Hp} {D : Ends} {Fr H1 : Hp} {e1 : Env} {v : V} {r : R} (rr : RpR c H1 Fr H σ e1 v r)
    (po : PoS t c W P Fr σ H1 D (setR i r e1)) : D.nx (σ.set i (some v)) H := by
  cases r with
  | ow o =>
    obtain ⟨as2, rp2⟩ := Rp1.set (i := i) rr
    exact po _ H1 H as2 (Same.refl _) (Prot.set hi) rp2
  | d x =>
    obtain ⟨⟨as2, rp2⟩, hd⟩ := rr
    exact po _ H1 H _ (Same.refl _) (Prot.set hi) (rp2.setSh hd)
  | sl j =>
    obtain ⟨d, e2, H2, as2, q, s2, rp2, hd, po⟩ := PoS.leak (ra := .sl j) po rr
    exact po _ H2 H _ (Same.refl _) (Prot.set hi) (rp2.setSh hd)
theorem ss_set {i : Nat} {x : Str} {pos' : Pos} (hP : P i = false) (hN : X.N.Nodup) (hi : X.N[i]? = some x) (hx : Loc X.env.scope x) (he : SE X t W a ma) (hs : swapsWith a (some (.Name x pos')) pos.line X.env = pure false := by rfl)
    (hf : X.fn x = true ∨ X.env.scope.names.lookup x = some .local := by first | exact .inl rfl | exact .inr rfl | assumption) : SS X t W P (.Assign [.Name x pos'] a pos) (sSet i ma) := by
  refine PS.imp (ps_set hN hi hx he hs hf) fun D σ H ⟨e, H0, Fr, as, rp, po⟩ => ?_
  exact ⟨e, H0, Fr, as, rp, PoS.of po fun r e1 v H1 H' s rr po => set_ok hP rr po⟩
/-! ### targets -/
def tGt (c : Cn) (P : Nat → Bool) (tg : Tg) : TG := fun v σ H Q => ∃ (e : Env) (H0 Fr : Hp) (as : Nat → List Addr) (d : D) (e' : Env), Rp c H0 Fr H σ e as ∧ Dat c H0 d v ∧ tg.put d e = some e' ∧ ∀ σ' as', Prot P σ σ' → Rp c H0 Fr H σ' e' as' → Q σ' H
def tGts (c : Cn) (P : Nat → Bool) (tgs : List Tg) : TGs := fun vs σ H Q => ∃ (e : Env) (H0 Fr : Hp) (as : Nat → List Addr) (ds : List D) (e' : Env), Rp c H0 Fr H σ e as ∧ Dats c H0 ds vs ∧ putAll tgs ds e = some e' ∧ ∀ σ' as', Prot P σ σ' → Rp c H0 Fr H σ' e' as' → Q σ' H
abbrev SG (X : Cx) (t : Tb) (P : Nat → Bool) (target : Expr) (tg : Tg) : Prop := PG X target (tGt (cn X t) P tg)
abbrev SGs (X : Cx) (t : Tb) (P : Nat → Bool) (ts : List Expr) (tgs : List Tg) : Prop := PGs X ts (tGts (cn X t) P tgs)
theorem PG.imp {X : Cx} {tg : Expr} {u u' : TG} (h : PG X tg u) (k : ∀ v σ H Q, u' v σ H Q → u v σ H Q) : PG X tg u' := ⟨fun pins s σ H v u Q I r q => h.run pins s σ H v u Q I r (k _ _ _ _ q)⟩
theorem PGs.imp {X : Cx} {ts : List Expr} {u u' : TGs} (h : PGs X ts u) (k : ∀ v σ H Q, u' v σ H Q → u v σ H Q) : PGs X ts u' := ⟨fun pins s σ H v u Q I r q => h.run pins s σ H v u Q I r (k _ _ _ _ q)⟩
theorem sg_name {i : Nat} {x : Str} (hP : P i = false) (hN : X.N.Nodup) (hi : X.N[i]? = some x) (hx : Loc X.env.scope x) (hf : X.fn x = true ∨ X.env.scope.names.lookup x = some .local := by first | exact .inl rfl | exact .inr rfl | assumption) : SG X t P (.Name x pos) (.nm i) := by
  refine PG.imp (pg_name hN hi hx hf) fun v σ H Q ⟨e, H0, Fr, as, d, e', rp, hd, hp, q⟩ => ?_
  cases hp
  exact q _ _ (Prot.set hP) (rp.setSh hd)
theorem sgs_nil : SGs X t P [] [] := by
  refine PGs.imp pgs_nil fun vs σ H Q ⟨e, H0, Fr, as, ds, e', rp, hd, hp, q⟩ => ?_
  cases ds with
  | nil =>
    cases hp
    exact ⟨hd, q σ as Prot.refl rp⟩
  | cons d ds => cases hp
theorem sgs_cons {g : Expr} {gs : List Expr} {tg : Tg} {tgs : List Tg} (h1 : SG X t P g tg) (h2 : SGs X t P gs tgs)
    (hs : (assignEach (g :: gs) X.env).map (·.2) = assign g X.env :: (assignEach gs X.env).map (·.2) := by rfl) : SGs X t P (g :: gs) (tg :: tgs) := by
  refine PGs.imp (pgs_cons h1 h2 hs) fun vs σ H Q ⟨e, H0, Fr, as, ds, e', rp, hd, hp, q⟩ => ?_
  cases ds with
  | nil => cases hp
  | cons d ds =>
    obtain ⟨v, r, h1, h2, h3⟩ := hd
    have hp : (match tg.put d e with
      | some e1 => putAll tgs ds e1
      | none => none) = some e' := hp
    cases q1 : tg.put d e with
    | none =>
      rw [q1] at hp
      cases hp
    | some e1 =>
      rw [q1] at hp
      exact ⟨v, r, h1, e, H0, Fr, as, d, e1, rp, h2, q1, fun σ' as' p rp' => ⟨e1, H0, Fr, as', ds, e', rp', h3, hp, fun σ2 as2 p2 rp2 => q σ2 as2 (p.trans p2) rp2⟩⟩
theorem putAll_len : ∀ {tgs : List Tg} {ds : List D} {e e' : Env}, putAll tgs ds e = some e' → ds.length = tgs.length
  | [], [], _, _, _ => rfl
  | [], _ :: _, _, _, h => by cases h
  | _ :: _, [], _, _, h => by cases h
  | tg :: tgs, d :: ds, e, e', h => by
    have hp : (match tg.put d e with
      | some e1 => putAll tgs ds e1
      | none => none) = some e' := h
    cases q1 : tg.put d e with
    | none =>
      rw [q1] at hp
      cases hp
    | some e1 =>
      rw [q1] at hp
      simp [putAll_len hp]
theorem sg_tup {gs : List Expr} {k : Nat} {tgs : List Tg} (hc : X.calm = true) (h : SGs X t P gs tgs) (hn : (assignEach gs X.env).length = tgs.length := by rfl) (hst : (assignEach gs X.env).findIdx? (·.1) = none := by rfl) : SG X t P (.Tuple gs k pos) (.tp tgs) := by
  refine PG.imp (pg_tup hc h hn hst) fun v σ H Q ⟨e, H0, Fr, as, d, e', rp, hd, hp, q⟩ => ?_
  cases d with
  | tup ds =>
    obtain ⟨_, a, vs, h1, h2, h3⟩ := hd
    have hp : putAll tgs ds e = some e' := hp
    exact ⟨a, vs, h1, SqT.same rp.sub h2, by rw [h3.len, putAll_len hp], e, H0, Fr, as, ds, e', rp, h3, hp, q⟩
  | _ => cases hp
/-! ### loops -/
/-- items, walked -/
def WkD (c : Cn) (H1 : Hp) (J : It) (items : List D) : Prop := ∃ (G : Hp → Prop) (Y : Nat → Hp → V → Hp → Prop), Walk J items.length G Y ∧ (∀ H2 H', Same H1 H2 → Same H2 H' → G H') ∧
  ∀ i H2 H' x H'', i < items.length → Same H1 H2 → Same H2 H' → Y i H' x H'' → ∃ d, items[i]? = some d ∧ ((H'' = H' ∧ Dat c H2 d x) ∨ ∃ p o, x = .ref p ∧ H' p = none ∧ H'' = upd H' p o ∧ Dat c (upd H2 p o) d x)
def rrI (c : Cn) : Hp → St → Hp → Hp → Env → It → List D → Prop := fun Fr σ H1 H' e J items => (∃ as, Rp c H1 Fr H' σ e as) ∧ WkD c H1 J items
def tIt (t : Tb) (c : Cn) (W : WX) (m : M (List D)) : TI := fun σ H Rr => tG t c W (rrI c) m σ H Rr
abbrev SI (X : Cx) (t : Tb) (W : WX) (tg it : Expr) (m : M (List D)) : Prop := PI X tg it (tIt t (cn X t) W m)
theorem PI.imp {X : Cx} {tg it : Expr} {u u' : TI} (h : PI X tg it u) (k : ∀ σ H Q, u' σ H Q → u σ H Q) : PI X tg it u' := ⟨fun pins s σ H R I q => h.run pins s σ H R I (k _ _ _ q)⟩
/-- the item of a turn -/
theorem wk_item {c : Cn} {H1 H2 Fr H' H'' : Hp} {items : List D} {σ : St} {e : Env} {as : Nat → List Addr} {i : Nat} {x : V} {G : Hp → Prop} {Y : Nat → Hp → V → Hp → Prop}
    (hy : ∀ i H2 H' x H'', i < items.length → Same H1 H2 → Same H2 H' → Y i H' x H'' → ∃ d, items[i]? = some d ∧ ((H'' = H' ∧ Dat c H2 d x) ∨ ∃ p o, x = .ref p ∧ H' p = none ∧ H'' = upd H' p o ∧ Dat c (upd H2 p o) d x))
    (hi : i < items.length) (s : Same H1 H2) (rp : Rp c H2 Fr H' σ e as) (y : Y i H' x H'') : ∃ d H3, items[i]? = some d ∧ Same H2 H3 ∧ Rp c H3 Fr H'' σ e as ∧ Dat c H3 d x := by
  obtain ⟨d, e1, q⟩ := hy i H2 H' x H'' hi s rp.sub y
  rcases q with ⟨rfl, hd⟩ | ⟨p, o, rfl, hp, rfl, hd⟩
  · exact ⟨d, H2, e1, Same.refl _, rp, hd⟩
  · exact ⟨d, _, e1, (rp.alloc hp).1, (rp.alloc hp).2, hd⟩
theorem drop_cons {α : Type} {l : List α} {i : Nat} {d : α} (h : l[i]? = some d) : l.drop i = d :: l.drop (i + 1) := by
  obtain ⟨h1, h2⟩ := List.getElem?_eq_some_iff.mp h
  rw [List.drop_eq_getElem_cons h1, h2]
theorem ss_for {target it : Expr} {body : List Stmt} {tg : Tg} {mi : M (List D)} {mb : MS} (hp : PassesOwn (model X.prog X.w) X.A X.env X.xe) (hc : X.calm = true) (hi : SI X t W target it mi) (hg : SG X t P target tg) (hb : SSs X t W P body mb)
    (hs : ∀ x, foldedSetIterable it X.env x = pure x := by intro _; rfl) : SS X t W P (.For target it body [] pos) (sFor tg mi mb) := by
  refine PS.imp (ps_for hp hc hi hg hb hs) fun D σ H ⟨e, H0, Fr, as, rp, po⟩ => ?_
  refine ⟨e, H0, Fr, as, rp, PoS.of po fun items e1 J H1 H' s ⟨⟨as1, rp1⟩, G, Y, wk, hG, hY⟩ po => ?_⟩
  refine for_it wk (fun i σ' H'' => ∃ e' H2 as', Same H1 H2 ∧ Prot P σ σ' ∧ Rp (cn X t) H2 Fr H'' σ' e' as' ∧ PoS t (cn X t) W P Fr σ H1 D (forL tg mb (items.drop i) e'))
    ⟨e1, H1, as1, Same.refl _, Prot.refl, rp1, by simpa using po⟩ (fun i σ' H'' _ ⟨e', H2, as', s2, _, rp2, _⟩ => hG H2 H'' s2 rp2.sub) ?_ ?_
  · rintro i x σ' H2' H3' hi ⟨e', H2, as', s2, p2, rp2, po2⟩ y
    obtain ⟨d, H3, e3, s3, rp3, hd⟩ := wk_item (G := G) hY hi s2 rp2 y
    rw [drop_cons e3] at po2
    have po2 : PoS t (cn X t) W P Fr σ H1 D (match tg.put d e' with
      | some e1 => (match mb e1 with
        | .nx e2 => forL tg mb (items.drop (i + 1)) e2
        | .ct e2 => forL tg mb (items.drop (i + 1)) e2
        | .bk e2 => .nx e2
        | r => r)
      | none => .bad) := po2
    cases q : tg.put d e' with
    | none =>
      rw [q] at po2
      exact po2.elim
    | some e2 =>
      rw [q] at po2
      have po2 : PoS t (cn X t) W P Fr σ H1 D (match mb e2 with
        | .nx e2 => forL tg mb (items.drop (i + 1)) e2
        | .ct e2 => forL tg mb (items.drop (i + 1)) e2
        | .bk e2 => .nx e2
        | r => r) := po2
      refine ⟨e', H3, Fr, as', d, e2, rp3, hd, q, fun σ2 as2 p3 rp4 => ⟨e2, H3, Fr, as2, rp4, ?_⟩⟩
      have s13 : Same H1 H3 := s2.trans s3
      have p13 : Prot P σ σ2 := p2.trans p3
      cases q2 : mb e2 with
      | nx e5 =>
        rw [q2] at po2
        exact fun σ3 H4 H4' as4 s4 p4 rp5 => ⟨e5, H4, as4, s13.trans s4, p13.trans p4, rp5, po2⟩
      | ct e5 =>
        rw [q2] at po2
        exact fun σ3 H4 H4' as4 s4 p4 rp5 => ⟨e5, H4, as4, s13.trans s4, p13.trans p4, rp5, po2⟩
      | bk e5 =>
        rw [q2] at po2
        exact fun σ3 H4 H4' as4 s4 p4 rp5 => po2 σ3 H4 H4' as4 (s13.trans s4) (p13.trans p4) rp5
      | rt o e5 =>
        rw [q2] at po2
        exact fun v σ3 H4 H4' s4 p4 rp5 => po2 v σ3 H4 H4' (s13.trans s4) (p13.trans p4) rp5
      | ex k p e5 =>
        rw [q2] at po2
        exact fun σ3 H4 H4' as4 cls dx s4 p4 rp5 xa => po2 σ3 H4 H4' as4 cls dx (s13.trans s4) (p13.trans p4) rp5 xa
      | bad =>
        rw [q2] at po2
        exact po2
  · rintro σ' H2' ⟨e', H2, as', s2, p2, rp2, po2⟩
    rw [List.drop_length] at po2
    exact po2 σ' H2 H2' as' s2 p2 rp2
theorem ss_while {cnd : Expr} {body : List Stmt} {mc : M Bool} {mb : MS} (n : Nat) (hp : PassesOwn (model X.prog X.w) X.A X.env X.xe) (hc : SB X t W cnd mc) (hb : SSs X t W P body mb) : SS X t W P (.While cnd body [] pos) (sWhile n mc mb) := by
  refine PS.imp (ps_while hp hc hb) fun D σ H ⟨e, H0, Fr, as, rp, po⟩ => ?_
  refine ⟨fun k σ' H' => ∃ e' H2 as', Same H0 H2 ∧ Prot P σ σ' ∧ Rp (cn X t) H2 Fr H' σ' e' as' ∧ PoS t (cn X t) W P Fr σ H0 D (whL mc mb k e'), ⟨n, e, H0, as, Same.refl _, Prot.refl, rp, po⟩, ?_⟩
  rintro k σ' H' ⟨e', H2, as', s2, p2, rp2, po2⟩
  cases k with
  | zero => exact po2.elim
  | succ k =>
    have po2 : PoS t (cn X t) W P Fr σ H0 D (match mc e' with
      | .ok true e1 => (match mb e1 with
        | .nx e2 => whL mc mb k e2
        | .ct e2 => whL mc mb k e2
        | .bk e2 => .nx e2
        | r => r)
      | .ok false e1 => .nx e1
      | .ex k p e1 => .ex k p e1
      | .bad => .bad) := po2
    refine ⟨e', H2, Fr, as', rp2, ?_⟩
    cases q : mc e' with
    | bad =>
      rw [q] at po2
      exact po2
    | ex j p e1 =>
      rw [q] at po2
      exact fun H3 H3' as3 cls dx s3 rp3 xa => po2 σ' H3 H3' as3 cls dx (s2.trans s3) p2 rp3 xa
    | ok b e1 =>
      rw [q] at po2
      rintro b' H3 H3' s3 ⟨rfl, as3, rp3⟩
      cases b' with
      | false => exact po2 σ' H3 H3' as3 (s2.trans s3) p2 rp3
      | true =>
        have po2 : PoS t (cn X t) W P Fr σ H0 D (match mb e1 with
          | .nx e2 => whL mc mb k e2
          | .ct e2 => whL mc mb k e2
          | .bk e2 => .nx e2
          | r => r) := po2
        refine ⟨fun σ2 H2' => ∃ e' H2 as', Same H0 H2 ∧ Prot P σ σ2 ∧ Rp (cn X t) H2 Fr H2' σ2 e' as' ∧ PoS t (cn X t) W P Fr σ H0 D (whL mc mb k e'), fun σ2 H2' h => ⟨k, Nat.lt_succ_self k, h⟩, ⟨e1, H3, Fr, as3, rp3, ?_⟩⟩
        have s03 : Same H0 H3 := s2.trans s3
        cases q2 : mb e1 with
        | nx e5 =>
          rw [q2] at po2
          exact fun σ3 H4 H4' as4 s4 p4 rp5 => ⟨e5, H4, as4, s03.trans s4, p2.trans p4, rp5, po2⟩
        | ct e5 =>
          rw [q2] at po2
          exact fun σ3 H4 H4' as4 s4 p4 rp5 => ⟨e5, H4, as4, s03.trans s4, p2.trans p4, rp5, po2⟩
        | bk e5 =>
          rw [q2] at po2
          exact fun σ3 H4 H4' as4 s4 p4 rp5 => po2 σ3 H4 H4' as4 (s03.trans s4) (p2.trans p4) rp5
        | rt o e5 =>
          rw [q2] at po2
          exact fun v σ3 H4 H4' s4 p4 rp5 => po2 v σ3 H4 H4' (s03.trans s4) (p2.trans p4) rp5
        | ex k p e5 =>
          rw [q2] at po2
          exact fun σ3 H4 H4' as4 cls dx s4 p4 rp5 xa => po2 σ3 H4 H4' as4 cls dx (s03.trans s4) (p2.trans p4) rp5 xa
        | bad =>
          rw [q2] at po2
          exact po2
end
end F
end

section
set_option Elab.async false
set_option linter.all false
set_option autoImplicit false
set_option maxRecDepth 100000
/-! F layer, part F: comprehensions, things changed in place, defs. -/
namespace F
open PySem PySem.Spec PyProof.Rows L2
section
variable {c : Cn} {H0 Fr H : Hp} {σ : St} {e : Env} {as : Nat → List Addr}
/-- a thing of the frame is changed -/
theorem Rp.frUpd (r : Rp c H0 Fr H σ e as) {p : Addr} {o x : HO} (h : Fr p = some o) : Rp c H0 (upd Fr p x) (upd H p x) σ e as := by
  obtain ⟨h1, h2⟩ := r.fr p o h
  have nas : ∀ {i a}, a ∈ as i → a ≠ p := fun {i a} ha z => by
    have := (r.off i a ha).2
    rw [z, h] at this
    cases this
  refine ⟨r.len, fun b y hb => by rw [upd_ne (ne_of_none hb h2)]; exact r.sub b y hb, fun b y hb => ?_, fun i o' q => ?_, fun i a ha => ⟨(r.off i a ha).1, by rw [upd_ne (nas ha)]; exact (r.off i a ha).2⟩, r.sep, r.nd, r.emp, r.tab.re (Same.refl _) (fun q hq => upd_ne fun z => by have := r.tab.nF q hq; rw [z, h] at this; cases this) r.tab.n0 (fun q hq => by rw [upd_ne fun z => by have := r.tab.nF q hq; rw [z, h] at this; cases this]; exact r.tab.nF q hq) r.tab.na⟩
  · by_cases z : b = p
    · subst z
      rw [upd_same] at hb ⊢
      exact ⟨hb, h2⟩
    · rw [upd_ne z] at hb ⊢
      exact r.fr b y hb
  · obtain ⟨v, h3, h4⟩ := r.own i o' q
    exact ⟨v, h3, OwnR.mono (fun _ _ z => z) o' v _ (fun a ha => upd_ne (nas ha)) h4⟩
/-- a new object that goes to the frame -/
theorem Rp.frNew (r : Rp c H0 Fr H σ e as) {p : Addr} {x : HO} (hp : H p = none) : Rp c H0 (upd Fr p x) (upd H p x) σ e as := by
  have h0 : H0 p = none := by
    cases q : H0 p with
    | none => rfl
    | some y =>
      rw [r.sub p y q] at hp
      cases hp
  have sH : Same H (upd H p x) := fun b o e => by rw [upd_ne (ne_of_none e hp)]; exact e
  have r2 := r.heap sH
  refine ⟨r2.len, r2.sub, fun b o hb => ?_, r2.own, fun i a ha => ⟨(r.off i a ha).1, ?_⟩, r2.sep, r2.nd, r2.emp, r2.tab.re (Same.refl _) (fun _ _ => rfl) r2.tab.n0 (fun q hq => by rw [upd_ne (r.tab.ne hq hp)]; exact r2.tab.nF q hq) r2.tab.na⟩
  · by_cases z : b = p
    · subst z
      rw [upd_same] at hb ⊢
      exact ⟨hb, h0⟩
    · rw [upd_ne z] at hb
      exact r2.fr b o hb
  · obtain ⟨y, hy⟩ := r.here ha
    rw [upd_ne (ne_of_none hy hp)]
    exact (r.off i a ha).2
/-- own slots are wiped -/
theorem wipe_len (e : Env) : ∀ own : List Nat, ∀ e : Env, (wipeE e own).length = e.length
  | [], e => rfl
  | i :: is, e => by
    unfold wipeE
    rw [wipe_len e is]
    simp
theorem wipe_slot : ∀ {own : List Nat} {e : Env} {i : Nat} {o : O}, slot (wipeE e own) i = some o → i ∉ own ∧ slot e i = some o
  | [], e, i, o, h => ⟨by simp, h⟩
  | j :: js, e, i, o, h => by
    obtain ⟨h1, h2⟩ := wipe_slot (own := js) (e := e.set j none) h
    obtain ⟨h3, h4⟩ := slot_none h2
    exact ⟨by simp [h1, h3], h4⟩
theorem wipe_get {σ : St} {i : Nat} : ∀ {vs : List Nat}, i ∉ vs → (wipe σ vs)[i]? = σ[i]?
  | [], _ => rfl
  | v :: vs, h => by
    unfold wipe
    rw [List.getElem?_set_ne fun z => h (by simp [z])]
    exact wipe_get fun z => h (by simp [z])
theorem Rp.wipe (r : Rp c H0 Fr H σ e as) (own : List Nat) : ∃ as', Rp c H0 Fr H (L2.wipe σ own) (wipeE e own) as' := by
  refine r.re (by rw [wipe_len e, wipe_length]; exact r.len) id (fun i o q => ?_) (fun i j _ _ _ _ h => h)
  obtain ⟨h1, h2⟩ := wipe_slot q
  exact ⟨h2, wipe_get h1⟩
/-- behind a comprehension -/
theorem Rp.unwipe {e0 : Env} {H1 : Hp} : ∀ {own is : List Nat} {e : Env} {as : Nat → List Addr}, Rp c H0 Fr H σ e as → (∀ i d, slot e0 i = some (.sh d) → ∃ v, σ[i]? = some (some v) ∧ Dat c H0 d v) → ∃ as', Rp c H0 Fr H σ (unwipe e0 e is) as'
  | own, [], e, as, r, h => ⟨as, r⟩
  | own, i :: is, e, as, r, h => by
    unfold F.unwipe
    split
    · rename_i d q
      obtain ⟨v, h1, h2⟩ := h i d q
      have r2 := r.setSh (i := i) h2
      have hs : σ.set i (some v) = σ := by
        apply List.ext_getElem?
        intro j
        by_cases z : i = j
        · subst z
          rw [List.getElem?_set_self (List.getElem?_eq_some_iff.mp h1).1, h1]
        · rw [List.getElem?_set_ne z]
      rw [hs] at r2
      exact Rp.unwipe (own := own) (H1 := H1) r2 h
    · exact Rp.unwipe (own := own) (H1 := H1) r h
end
abbrev W0 : WX := fun _ _ _ _ => False
abbrev STs (X : Cx) (t : Tb) (ifs : List Expr) (m : M Bool) : Prop := PTs X ifs (tG t (cn X t) W0 (rrB (cn X t)) m)
theorem sts_nil {X : Cx} {t : Tb} : STs X t [] mYes := by
  refine ⟨fun pins s σ H Q I ⟨e, H0, Fr, as, rp, po⟩ => pts_nil.run pins s σ H Q I ?_⟩
  exact po true H0 H (Same.refl _) ⟨rfl, as, rp⟩
theorem sts_one {X : Cx} {t : Tb} {c : Expr} {m : M Bool} (h : SB X t W0 c m) : STs X t [c] m := pts_one h
theorem wipe_in {σ : St} : ∀ {vs : List Nat} {i : Nat}, i ∈ vs → i < σ.length → (L2.wipe σ vs)[i]? = some none
  | [], _, h, _ => by cases h
  | v :: vs, i, h, hl => by
    show ((L2.wipe σ vs).set v none)[i]? = some none
    by_cases z : v = i
    · subst z
      exact List.getElem?_set_self (by rw [wipe_length]; exact hl)
    · rw [List.getElem?_set_ne z]
      rcases List.mem_cons.mp h with e | e
      · exact absurd e.symm z
      · exact wipe_in e hl
theorem wipe_eq {σ σ2 : St} {own : List Nat} (h : Prot (fun i => !own.contains i) (L2.wipe σ own) σ2) : L2.wipe σ2 own = L2.wipe σ own := by
  have hl : σ2.length = σ.length := by rw [h.1, wipe_length]
  apply List.ext_getElem?
  intro i
  by_cases hi : i ∈ own
  · by_cases hlt : i < σ.length
    · rw [wipe_in hi hlt, wipe_in hi (by omega)]
    · rw [List.getElem?_eq_none (by rw [wipe_length]; omega), List.getElem?_eq_none (by rw [wipe_length]; omega)]
  · rw [wipe_get hi, h.2 i (by simpa using hi)]
section
variable {X : Cx} {t : Tb} {W : WX}
theorem lc_read {mi : M (List D)} {own : List Nat} {tg : Tg} {mc : M Bool} {mv : M R} {σ : St} {H : Hp} {Q : VK} (q : tI X t W (mLc own tg mi mc mv) σ H Q) :
    tLc (tIt t (cn X t) W mi) (tGt (cn X t) (fun i => !own.contains i) tg) (tG t (cn X t) W0 (rrB (cn X t)) mc) (tI X t W0 mv) own σ H Q := by
  obtain ⟨e, H0, Fr, as, rp, po⟩ := q
  refine ⟨e, H0, Fr, as, rp, po.bind fun items e1 J H1 H' s ⟨⟨as1, rp1⟩, G, Y, wk, hG, hY⟩ po => ?_⟩
  intro L hL
  by_cases hlim : items.length ≤ lim
  case neg =>
    rw [if_neg hlim] at po
    exact po.elim
  rw [if_pos hlim] at po
  have h1L : H1 L = none := by
    cases z : H1 L with
    | none => rfl
    | some y =>
      rw [rp1.sub L y z] at hL
      cases hL
  have hFL : Fr L = none := by
    cases z : Fr L with
    | none => rfl
    | some y =>
      rw [(rp1.fr L y z).1] at hL
      cases hL
  -- what is kept of the names' shared data
  have old : ∀ i d, slot e1 i = some (.sh d) → ∃ v, σ[i]? = some (some v) ∧ Dat (cn X t) H1 d v := fun i d z => by
    obtain ⟨v, h1, h2⟩ := rp1.own i _ z
    exact ⟨v, h1, h2.2⟩
  obtain ⟨as0, rp0⟩ := rp1.wipe own
  refine lc_it wk (fun i H'' => ∃ (e' : Env) (H2 : Hp) (as' : Nat → List Addr) (acc : List D) (ws : List V), Same H1 H2 ∧ Rp (cn X t) H2 (upd Fr L (.lst ws)) H'' (L2.wipe σ own) e' as' ∧ Dats (cn X t) H2 acc ws ∧ acc.length ≤ i ∧
      Po t (cn X t) W Fr σ H1 (rrR (cn X t) Fr σ) Q (lcEnd e1 own (lcL own tg mc mv (items.drop i) acc e'))) ⟨wipeE e1 own, H1, as0, [], [], Same.refl _, rp0.frNew hL, rfl, Nat.le_refl _, by simpa using po⟩ (fun i H'' _ ⟨e', H2, as', acc, ws, s2, rp2, _⟩ => hG H2 H'' s2 rp2.sub) ?_ ?_
  · rintro i x Hi Hx hi ⟨e', H2, as', acc, ws, s2, rp2, hacc, hlen, po2⟩ y
    obtain ⟨d, H3, e3, s3, rp3, hd⟩ := wk_item (G := G) hY hi s2 rp2 y
    rw [drop_cons e3] at po2
    unfold lcL at po2
    cases q : tg.put d e' with
    | none =>
      rw [q] at po2
      exact po2.elim
    | some e2 =>
      rw [q] at po2
      dsimp only at po2
      refine ⟨e', H3, upd Fr L (.lst ws), as', d, e2, rp3, hd, q, fun σ2 as2 p3 rp4 => ?_⟩
      have hw := wipe_eq p3
      refine ⟨hw, e2, H3, upd Fr L (.lst ws), as2, rp4, ?_⟩
      cases qc : mc e2 with
      | bad =>
        rw [qc] at po2
        exact po2.elim
      | ex _ _ _ =>
        rw [qc] at po2
        exact po2.elim
      | ok b e4 =>
        rw [qc] at po2
        rintro b' H4 H4' s4 ⟨rfl, as4, rp4⟩
        cases b' with
        | false =>
          dsimp only at po2
          rw [if_neg Bool.false_ne_true]
          obtain ⟨as5, rp5⟩ := rp4.wipe own
          rw [hw] at rp5
          exact ⟨_, H4, as5, acc, ws, (s2.trans s3).trans s4, rp5, Dats.mono (s3.trans s4) _ _ hacc, by omega, po2⟩
        | true =>
          dsimp only at po2
          rw [if_pos rfl]
          refine ⟨e4, H4, upd Fr L (.lst ws), as4, rp4, ?_⟩
          cases qv : mv e4 with
          | bad =>
            rw [qv] at po2
            exact po2.elim
          | ex _ _ _ =>
            rw [qv] at po2
            exact po2.elim
          | ok r e5 =>
            rw [qv] at po2
            dsimp only at po2
            intro v H5 H5' s5 rr
            rcases leak_ok (e' := e5) rr with ⟨d6, e6, ql⟩ | ql
            · rw [ql] at po2
              dsimp only at po2
              obtain ⟨H6, as6, s6, rp6, hd6⟩ := RpR.leak rr ql
              have hL6 : H5' L = some (.lst ws) := (rp6.fr L _ upd_same).1
              have hwl : ws.length = acc.length := hacc.len
              have hz : sizeLine = lim := sizeLine_lim
              refine ⟨ws, hL6, by omega, ?_⟩
              obtain ⟨as7, rp7⟩ := rp6.wipe own
              rw [hw] at rp7
              have rp8 := rp7.frUpd (p := L) (x := .lst (ws ++ [v])) upd_same
              rw [upd_upd] at rp8
              have s26 : Same H2 H6 := ((s3.trans s4).trans s5).trans s6
              exact ⟨_, H6, as7, acc ++ [d6], ws ++ [v], s2.trans s26, rp8, Dats.app (Dats.mono s26 _ _ hacc) (Dats.one hd6), by simp; omega, po2⟩
            · rw [ql] at po2
              exact po2.elim
  · rintro H'' ⟨e', H2, as', acc, ws, s2, rp2, hacc, hlen, po2⟩
    rw [List.drop_length] at po2
    have po2 : Po t (cn X t) W Fr σ H1 (rrR (cn X t) Fr σ) Q (.ok (.ow (.fl acc)) (unwipe e1 e' own)) := po2
    have rp3 : Rp (cn X t) H2 (upd Fr L (.lst ws)) H'' σ e' as' := by
      refine rp2.other (by rw [wipe_length]) fun i o q => ?_
      obtain ⟨v, h1, _⟩ := rp2.own i o q
      rw [(wipe_some h1).1, h1]
    obtain ⟨as4, rp4⟩ := rp3.unwipe (e0 := e1) (own := own) (H1 := H1) (is := own) fun i d z => by
      obtain ⟨v, h1, h2⟩ := old i d z
      exact ⟨v, h1, Dat.mono s2 _ _ h2⟩
    refine po2 (.ref L) H2 H'' s2 ⟨[L], as4, ⟨?_, L, ws, rfl, rfl, ?_, hacc⟩, by simp, fun a ha => ?_, ?_⟩
    · omega
    · exact (rp2.fr L _ upd_same).1
    · rw [List.mem_singleton.mp ha]
      exact ⟨(rp2.fr L _ upd_same).2, hFL⟩
    · have hF : addF Fr H'' [L] = upd Fr L (.lst ws) := by
        funext b
        by_cases z : b = L
        · subst z
          rw [addF_in (by simp), upd_same]
          exact (rp2.fr b _ upd_same).1
        · rw [addF_out (by simpa using z), upd_ne z]
      rw [hF]
      exact rp4
variable {elt target iter : Expr} {ifs : List Expr} {scope : Scope} {own : List (Str × Nat)} {pos spos py : Pos} {tg : Tg} {mi : M (List D)} {mc : M Bool} {mv : M R} {P : Nat → Bool}
abbrev Blk (X : Cx) (scope : Scope) (s : Shared) (H : Hp) (C : Addr) (cl : List (Str × Addr)) (fp : List Addr) : Cx := X.blk s H scope (compEnvC scope cl C X.env) fp
theorem se_lc (hc : X.calm = true) (hN : X.N.Nodup) (hi : SI X t W target iter mi) (ok : BlkOk X.N X.env.scope scope own)
    (hg : ∀ s H C cl fp, SG (Blk X scope s H C cl fp) t (fun i => !(own.map (·.2)).contains i) target tg) (ht : ∀ s H C cl fp, STs (Blk X scope s H C cl fp) t ifs mc)
    (he : ∀ s H C cl fp, SE (Blk X scope s H C cl fp) t W0 elt mv) (hs : ∀ x, foldedSetIterable iter X.env x = pure x := by intro _; rfl) :
    SE X t W (.ListComp elt [⟨target, iter, ifs, 0⟩] scope pos) (mLc (own.map (·.2)) tg mi mc mv) :=
  PE.imp (pe_lc (own := own) hc hN hi ok hg ht he hs) fun _ _ _ q => lc_read q
theorem ss_setLc {i : Nat} {y : Str} (hP : P i = false) (hc : X.calm = true) (hN : X.N.Nodup) (hy : X.N[i]? = some y) (hyl : X.env.scope.names.lookup y = some .local)
    (hsw : swapsWith (.ListComp elt [⟨target, iter, ifs, 0⟩] scope pos) (some (.Name y py)) spos.line X.env = pure true) (hi : SI X t W target iter mi) (ok : BlkOk X.N X.env.scope scope own)
    (hg : ∀ s H C cl fp, SG (Blk X scope s H C cl fp) t (fun i => !(own.map (·.2)).contains i) target tg) (ht : ∀ s H C cl fp, STs (Blk X scope s H C cl fp) t ifs mc)
    (he : ∀ s H C cl fp, SE (Blk X scope s H C cl fp) t W0 elt mv) (hs : ∀ x, foldedSetIterable iter X.env x = pure x := by intro _; rfl) :
    SS X t W P (.Assign [.Name y py] (.ListComp elt [⟨target, iter, ifs, 0⟩] scope pos) spos) (sSet i (mLc (own.map (·.2)) tg mi mc mv)) := by
  refine PS.imp (ps_setLc (own := own) (g := tGt (cn X t) (fun i => !(own.map (·.2)).contains i) tg) (tt := tG t (cn X t) W0 (rrB (cn X t)) mc) (te := tI X t W0 mv) hc hN hy hyl hsw hi ok hg ht he hs) fun D σ H ⟨e, H0, Fr, as, rp, po⟩ => ?_
  exact lc_read (t := t) ⟨e, H0, Fr, as, rp, PoS.of po fun r e1 v H1 H' s rr po => set_ok hP rr po⟩
end
/-! ### things changed in place -/
section
variable {X : Cx} {t : Tb} {W : WX} {P : Nat → Bool} {a b k v : Expr} {ma mb mk mv : M R} {pos apos cpos p1 : Pos} {i : Nat}
/-- a name's own list, at its address -/
theorem Rp.lst {c : Cn} {H0 Fr H : Hp} {σ : St} {e : Env} {as : Nat → List Addr} (r : Rp c H0 Fr H σ e as) {i : Nat} {l : List D} (q : slot e i = some (.fl l)) {v : V} (hv : σ[i]? = some (some v)) :
    l.length ≤ lim ∧ ∃ p vs, v = .ref p ∧ H p = some (.lst vs) ∧ Dats c H0 l vs ∧
      ∀ l' vs', l'.length ≤ lim → Dats c H0 l' vs' → Rp c H0 Fr (upd H p (.lst vs')) σ (e.set i (some (.fl l'))) as := by
  obtain ⟨w, h1, hl, p, vs, h2, h3, h4, h5⟩ := r.own i _ q
  rw [hv] at h1
  cases h1
  refine ⟨hl, p, vs, h2, h4, h5, fun l' vs' hl' hd => r.mut q h3 fun w hw _ => ?_⟩
  rw [hv] at hw
  cases hw
  exact ⟨hl', p, vs', h2, rfl, upd_same, hd⟩
def MOp1 (c : Cn) (r : V → List V → Hp → VK → Prop) (f : List D → D → Option (D × List D)) : Prop := ∀ (H0 H : Hp) (p : Addr) (l : List D) (vs : List V) (x d : D) (y : V) (l' : List D) (Q : VK), Same H0 H → f l x = some (d, l') → l.length ≤ lim → H p = some (.lst vs) → Dats c H0 l vs → Dat c H0 x y →
  (∀ z vs', l'.length ≤ lim → Dats c H0 l' vs' → Dat c H0 d z → Q z (upd H p (.lst vs'))) → r (.ref p) [y] H Q
theorem tyV_lst {K : PySem.W.Frag} {H : Hp} {p : Addr} {vs : List V} (h : H p = some (.lst vs)) : tyV K "list" (.ref p) H := Or.inl ⟨rfl, vs, SqL.of h⟩
theorem se_mut1 {x name : Str} {id : String} {r : V → List V → Hp → VK → Prop} {f : List D → D → Option (D × List D)} (slot : Slot "list" name id) (hty : typeOf (.builtin id) = pure (.type "method_descriptor")) (hm : MtR X id r) (hr : MOp1 (cn X t) r f) (ho : PE X (.Name x p1) (tVar i)) (ha : SE X t W a ma)
    (hs1 : starEach (a :: []) X.env = (false, eval a X.env) :: starEach [] X.env := by rfl)
    (hbase : attributeBase (.Name x p1) name X.env (eval (.Name x p1) X.env) = eval (.Name x p1) X.env := by rfl)
    (hfew : ((backTo cpos (starEach (a :: []) X.env)).all (fun x => !x.1) && (backToKw cpos (keywordEach [] X.env)).all (fun x => x.1.isSome)
      && decide ((a :: []).length + ([] : List Keyword).length + (if ([] : List Keyword).isEmpty then 0 else 1) < 30)) = true := by rfl)
    (hline : (apos.endLine == cpos.line) = true := by rfl) (hs : starEach (a :: []) X.env = (false, eval a X.env) :: starEach [] X.env := by rfl) (hplain : (backTo cpos (starEach [] X.env)).any (·.1) = false := by rfl) :
    SE X t W (.Call (.Attribute (.Name x p1) name apos) [a] [] cpos) (mMut1 i f ma) := by
  refine PE.imp (pe_bm PySem.F.plainAttrs_list slot hty hm ho (pa_cons ha pa_nil hs1) hbase hfew hline hs hplain) fun σ H Q ⟨e, H0, Fr, as, rp, po⟩ => ?_
  have po : Po t (cn X t) W Fr σ H0 (rrR (cn X t) Fr σ) Q (match F.slot e i with
    | some (.fl _) => andThen (ma e) fun r e1 => andThen (leak r e1) fun d e2 => (match F.slot e2 i with
      | some (.fl l) => ofO (f l d) fun p => .ok (.d p.1) (e2.set i (some (.fl p.2)))
      | _ => .bad)
    | _ => .bad) := po
  split at po
  · rename_i l0 q0
    obtain ⟨w, h1, _⟩ := rp.own i _ q0
    obtain ⟨_, p, vs0, rfl, h2, _, _⟩ := rp.lst q0 h1
    refine ⟨_, h1, tyV_lst h2, e, H0, Fr, as, rp, po.bind fun ra e1 y H1 H' s rr po => ?_⟩
    obtain ⟨x, e2, H2, as2, ql, s2, rp2, hx, po⟩ := po.leak rr
    split at po
    · rename_i l q
      obtain ⟨hl, p', vs, e3, h3, h4, h5⟩ := rp2.lst q h1
      cases e3
      obtain ⟨pr, e4, po⟩ := po.ofO
      obtain ⟨d, l'⟩ := pr
      exact hr H2 H' p l vs x d y l' Q rp2.sub e4 hl h3 h4 hx fun z vs' hl' hd hz => po z H2 _ (Same.refl _) ⟨⟨as2, h5 l' vs' hl' hd⟩, hz⟩
    · exact po.elim
  · exact po.elim
theorem ss_sto {x : Str} (ho : PE X (.Name x p1) (tVar i)) (hk : SE X t W k mk) (hv : SE X t W v mv)
    (ha : ∀ v, assign (.Subscript (.Name x p1) k apos) X.env v = (do
      let ov ← holding [v] (eval (.Name x p1) X.env)
      let iv ← holding [v, ov] (eval k X.env)
      standAt apos
      holding [v, ov, iv] (setItem ov iv v)
      release [v, ov, iv] []) := by intro _; rfl) (hs : swapsWithSole [.Subscript (.Name x p1) k apos] v pos.line X.env = pure false := by rfl) (hw : swappedStores [.Subscript (.Name x p1) k apos] v X.env = pure none := by rfl)
    (h1 : (assignEach [.Subscript (.Name x p1) k apos] X.env).map (·.2) = [assign (.Subscript (.Name x p1) k apos) X.env] := by rfl) : SS X t W P (.Assign [.Subscript (.Name x p1) k apos] v pos) (sSto i mk mv) := by
  refine PS.imp (ps_asg hv (pg_sub ho hk set_list ha) hs hw h1) fun D σ H ⟨e, H0, Fr, as, rp, po⟩ => ?_
  refine ⟨e, H0, Fr, as, rp, PoS.of po fun r e1 y H1 H' s rr po => ?_⟩
  obtain ⟨d, e2, H2, as2, ql, s2, rp2, hd, po⟩ := PoS.leak po rr
  cases q0 : F.slot e2 i with
  | none =>
    rw [q0] at po
    exact po.elim
  | some o =>
    rw [q0] at po
    obtain ⟨w, hw, _⟩ := rp2.own i _ q0
    refine ⟨w, hw, e2, H2, Fr, as2, rp2, PoS.of po fun q e3 z H3 H'' s3 rr3 po => ?_⟩
    obtain ⟨j, q1, po⟩ := PoS.ofOS po
    obtain ⟨H4, as4, s4, rp4, hj⟩ := RpR.peek rr3 q1
    split at po
    · rename_i l j' q
      split at po
      · rename_i n qn
        obtain ⟨hl, p, vs, rfl, h3, h4, h5⟩ := rp4.lst q hw
        refine ⟨p, vs, j', n, rfl, hj, h3, by rw [h4.len]; exact qn, ?_⟩
        exact po σ H4 _ as4 s4 Prot.refl (h5 _ _ (by simpa using hl) (Dats.set (Dat.mono (s3.trans s4) _ _ hd) n h4))
      · exact po.elim
    · exact po.elim
/-- x op= e -/
def VIp (c : Cn) (r : TIp) (f : D → D → Option D) : Prop := ∀ (H0 H : Hp) (x y : V) (dx dy dz : D) (Q : VK), Same H0 H → f dx dy = some dz → Dat1 c H0 H dx x → Dat1 c H0 H dy y → Out c H0 H dz Q → r x y H Q
theorem ss_aug {x : Str} {pos' : Pos} {op : Operator} {r : TIp} {f : D → D → Option D} (hP : P i = false) (hN : X.N.Nodup) (hi : X.N[i]? = some x) (hx : Loc X.env.scope x) (he : SE X t W a ma) (ho : PIp X op r) (hr : VIp (cn X t) r f)
    (hf : X.fn x = true ∨ X.env.scope.names.lookup x = some .local := by first | exact .inl rfl | exact .inr rfl | assumption) : SS X t W P (.AugAssign (.Name x pos') op a pos) (sAug i f ma) := by
  refine PS.imp (ps_aug hN hi hx he ho hf) fun D σ H ⟨e, H0, Fr, as, rp, po⟩ => ?_
  have po : PoS t (cn X t) W P Fr σ H0 D (match F.slot e i with
    | some _ => sOf (ma e) fun r e1 => ofOS (peek (.sl i) e1) fun x => ofOS (peek r e1) fun y => ofOS (f x y) fun z => .nx (e1.set i (some (.sh z)))
    | none => .bad) := po
  cases q0 : F.slot e i with
  | none =>
    rw [q0] at po
    exact po.elim
  | some o =>
    rw [q0] at po
    obtain ⟨w, hw, _⟩ := rp.own i _ q0
    refine ⟨w, hw, e, H0, Fr, as, rp, PoS.of po fun q e1 y H1 H' s rr po => ?_⟩
    obtain ⟨dx, q1, po⟩ := PoS.ofOS po
    obtain ⟨dy, q2, po⟩ := PoS.ofOS po
    obtain ⟨dz, q3, po⟩ := PoS.ofOS po
    obtain ⟨H2, as2, s2, rp2, hy⟩ := RpR.peek rr q2
    refine hr H2 H' w y dx dy dz _ rp2.sub q3 (Kp.peek (r := .sl i) rp2 hw q1) hy ⟨fun z hz => ?_, fun p o hp hd => ?_⟩
    · exact po _ H2 H' _ s2 (Prot.set hP) (rp2.setSh hz)
    · exact po _ _ _ _ (s2.trans (rp2.alloc (x := o) hp).1) (Prot.set hP) ((rp2.alloc hp).2.setSh hd)
end
/-! ### several answers, new things left as they are -/
section
variable {c : Cn} {H0 Fr H : Hp} {σ : St} {e : Env}
def RpO (c : Cn) (H0 Fr H : Hp) (σ : St) (e : Env) (vs : List V) (os : List O) : Prop := ∃ bs as, OwnRs c H0 H os vs bs ∧ bs.Nodup ∧ (∀ a ∈ bs, H0 a = none ∧ Fr a = none) ∧ Rp c H0 (addF Fr H bs) H σ e as
def rrOs (c : Cn) : Hp → St → Hp → Hp → Env → List V → List O → Prop := fun Fr σ H1 H' e vs os => RpO c H1 Fr H' σ e vs os
/-- the first goes to a name -/
theorem RpO.set {v : V} {vs : List V} {o : O} {os : List O} {i : Nat} (r : RpO c H0 Fr H σ e (v :: vs) (o :: os)) : RpO c H0 Fr H (σ.set i (some v)) (e.set i (some o)) vs os := by
  obtain ⟨bs, as, ⟨v', r', b1, b2, e1, e2, h1, h2⟩, nd, off, rp⟩ := r
  cases e1
  subst e2
  have hd : ∀ a ∈ b1, a ∉ b2 := fun a ha hb => by
    have := (List.nodup_append.mp nd).2.2 a ha a hb
    exact this rfl
  have r1 : Rp1 c H0 (addF Fr H b2) H σ e v o := by
    refine ⟨b1, as, h1, (List.nodup_append.mp nd).1, fun a ha => ⟨(off a (List.mem_append_left _ ha)).1, ?_⟩, ?_⟩
    · rw [addF_out (hd a ha)]
      exact (off a (List.mem_append_left _ ha)).2
    · have : addF (addF Fr H b2) H b1 = addF Fr H (b1 ++ b2) := by
        funext a
        by_cases z1 : a ∈ b1
        · rw [addF_in z1, addF_in (List.mem_append_left _ z1)]
        · rw [addF_out z1]
          by_cases z2 : a ∈ b2
          · rw [addF_in z2, addF_in (List.mem_append_right _ z2)]
          · rw [addF_out z2, addF_out (by simp [z1, z2])]
      rw [this]
      exact rp
  obtain ⟨as2, rp2⟩ := r1.set (i := i)
  exact ⟨b2, as2, h2, (List.nodup_append.mp nd).2.1, fun a ha => off a (List.mem_append_right _ ha), rp2⟩
end
section
variable {X : Cx} {t : Tb} {W : WX} {P : Nat → Bool} {a b : Expr} {es : List Expr} {ma mb : M R} {ms : List (M R)} {pos : Pos}
abbrev SO (X : Cx) (t : Tb) (W : WX) (es : List Expr) (m : M (List O)) : Prop := PA X es (tG t (cn X t) W (rrOs (cn X t)) m)
theorem so_nil : SO X t W [] (mOs []) := by
  refine PA.imp pa_nil fun σ H Q ⟨e, H0, Fr, as, rp, po⟩ => ?_
  exact po [] H0 H (Same.refl _) ⟨[], as, ⟨rfl, rfl⟩, List.nodup_nil, by simp, by rw [addF_nil]; exact rp⟩
/-- one more ahead -/
theorem rpO_cons {c : Cn} {H0 H1 Fr H H' : Hp} {σ : St} {e1 : Env} {v : V} {o : O} {vs : List V} {os : List O} {b1 : List Addr} (h1 : OwnR c H0 H o v b1) (nd : b1.Nodup) (off : ∀ a ∈ b1, H0 a = none ∧ Fr a = none) (s : Same H0 H1)
    (r : RpO c H1 (addF Fr H b1) H' σ e1 vs os) : RpO c H1 Fr H' σ e1 (v :: vs) (o :: os) := by
  obtain ⟨b2, as, h2, nd2, off2, rp⟩ := r
  have here : ∀ a ∈ b1, ∃ x, H a = some x := OwnR.here o v b1 h1
  have hd : ∀ a ∈ b1, a ∉ b2 := fun a ha hb => by
    have := (off2 a hb).2
    rw [addF_in ha] at this
    obtain ⟨x, hx⟩ := here a ha
    rw [hx] at this
    cases this
  have keep : ∀ a ∈ b1, H' a = H a ∧ H1 a = none := fun a ha => by
    obtain ⟨x, hx⟩ := here a ha
    have := rp.fr a x (by rw [addF_out (hd a ha), addF_in ha]; exact hx)
    exact ⟨this.1.trans hx.symm, this.2⟩
  refine ⟨b1 ++ b2, as, ⟨v, vs, b1, b2, rfl, rfl, OwnR.mono s o v b1 (fun a ha => (keep a ha).1) h1, h2⟩, ?_, fun a ha => ?_, ?_⟩
  · exact List.nodup_append.mpr ⟨nd, nd2, fun a ha b hb z => hd a ha (z ▸ hb)⟩
  · rcases List.mem_append.mp ha with ha | ha
    · exact ⟨(keep a ha).2, (off a ha).2⟩
    · have := (off2 a ha).2
      rw [addF_out fun z => hd a z ha] at this
      exact ⟨(off2 a ha).1, this⟩
  · have : addF Fr H' (b1 ++ b2) = addF (addF Fr H b1) H' b2 := by
      funext a
      by_cases z2 : a ∈ b2
      · rw [addF_in z2, addF_in (List.mem_append_right _ z2)]
      · rw [addF_out z2]
        by_cases z1 : a ∈ b1
        · rw [addF_in z1, addF_in (List.mem_append_left _ z1)]
          exact (keep a z1).1
        · rw [addF_out z1, addF_out (by simp [z1, z2])]
    rw [this]
    exact rp
theorem so_cons (ha : SE X t W a ma) (hr : SO X t W es (mOs ms)) (hs : starEach (a :: es) X.env = (false, eval a X.env) :: starEach es X.env := by rfl) : SO X t W (a :: es) (mOs (ma :: ms)) := by
  refine PA.imp (pa_cons ha hr hs) fun σ H Q ⟨e, H0, Fr, as, rp, po⟩ => ?_
  have po : Po t (cn X t) W Fr σ H0 (rrOs (cn X t) Fr σ) Q (andThen (ma e) fun r e1 => match r with
    | .ow o => andThen (mOs ms e1) fun os e2 => .ok (o :: os) e2
    | r => andThen (leak r e1) fun d e2 => andThen (mOs ms e2) fun os e3 => .ok (.sh d :: os) e3) := po
  refine ⟨e, H0, Fr, as, rp, po.bind fun ra e1 v H1 H' s rr po => ?_⟩
  have sh : ∀ {r : R}, RpR (cn X t) H1 Fr H' σ e1 v r → Po t (cn X t) W Fr σ H1 (rrOs (cn X t) Fr σ) Q (andThen (leak r e1) fun d e2 => andThen (mOs ms e2) fun os e3 => .ok (.sh d :: os) e3) →
      tG t (cn X t) W (rrOs (cn X t)) (mOs ms) σ H' fun xs H2 => Q (v :: xs) H2 := fun {r} rr po => by
    obtain ⟨d, e2, H2, as2, ql, s2, rp2, hd, po⟩ := po.leak rr
    refine ⟨e2, H2, Fr, as2, rp2, po.bind fun os e3 vs H3 H'' s3 ro po => ?_⟩
    refine po (v :: vs) H3 H'' (Same.refl _) ?_
    exact rpO_cons (H := H') (b1 := []) ⟨rfl, hd⟩ List.nodup_nil (by simp) s3 (by rw [addF_nil]; exact ro)
  cases ra with
  | d x => exact sh rr po
  | sl i => exact sh rr po
  | ow o =>
    have po : Po t (cn X t) W Fr σ H1 (rrOs (cn X t) Fr σ) Q (andThen (mOs ms e1) fun os e2 => .ok (o :: os) e2) := po
    obtain ⟨b1, as2, h1, nd, off, rp2⟩ := rr
    refine ⟨e1, H1, addF Fr H' b1, as2, rp2, ?_⟩
    cases q : mOs ms e1 with
    | bad =>
      rw [q] at po
      exact po
    | ex k p e2 =>
      rw [q] at po
      exact fun H2 H'' as3 cls dx s3 rp3 xa => po H2 H'' as3 cls dx s3 (rp3.less fun b x hb => by
        rw [addF_out fun z => by
          rw [(off b z).2] at hb
          cases hb]
        exact hb) xa
    | ok os e2 =>
      rw [q] at po
      exact fun vs H2 H'' s3 ro => po (v :: vs) H2 H'' s3 (rpO_cons h1 nd off s3 ro)
theorem ss_par {i j : Nat} {x y : Str} {px py pt : Pos} {kt k2 : Nat} {pt2 : Pos} (hPi : P i = false) (hPj : P j = false) (hc : X.calm = true) (hN : X.N.Nodup) (hi : X.N[i]? = some x) (hj : X.N[j]? = some y) (hij : i ≠ j)
    (hx : X.env.scope.names.lookup x = some .local) (hy : X.env.scope.names.lookup y = some .local) (ha : SO X t W [a, b] (mOs [ma, mb]))
    (hw : swappedStores [.Tuple [.Name x px, .Name y py] kt pt] (.Tuple [a, b] k2 pt2) X.env = pure (some [x, y]))
    (hs : swapsWithSole [.Tuple [.Name x px, .Name y py] kt pt] (.Tuple [a, b] k2 pt2) pos.line X.env = pure false := by rfl) :
    SS X t W P (.Assign [.Tuple [.Name x px, .Name y py] kt pt] (.Tuple [a, b] k2 pt2) pos) (sPar [i, j] [ma, mb]) := by
  refine PS.imp (ps_par hc hN hi hj hij hx hy ha hw hs) fun D σ H ⟨e, H0, Fr, as, rp, po⟩ => ?_
  refine ⟨e, H0, Fr, as, rp, PoS.of po fun os e1 vs H1 H' s ro po => ?_⟩
  obtain ⟨e2, q, po⟩ := PoS.ofOS po
  match os, vs, ro, q with
  | [o1, o2], [v1, v2], ro, q =>
    cases q
    have r1 := RpO.set (i := i) ro
    have r2 := RpO.set (i := j) r1
    obtain ⟨bs, as3, ⟨_, hb⟩, _, _, rp3⟩ := r2
    subst hb
    rw [addF_nil] at rp3
    exact ⟨v1, v2, rfl, po _ H1 H' as3 (Same.refl _) ((Prot.set hPi).trans (Prot.set hPj)) rp3⟩
  | [], _, _, q => cases q
  | [_], _, _, q => cases q
  | _ :: _ :: _ :: _, _, _, q => cases q
  | [o1, o2], [], ro, q =>
    obtain ⟨_, _, ⟨_, _, _, _, h, _⟩, _⟩ := ro
    cases h
  | [o1, o2], [_], ro, q =>
    obtain ⟨_, _, ⟨_, _, _, _, h, _, _, ⟨_, _, _, _, h2, _⟩⟩, _⟩ := ro
    cases h
    cases h2
  | [o1, o2], _ :: _ :: _ :: _, ro, q =>
    obtain ⟨_, _, ⟨_, _, _, _, h, _, _, ⟨_, _, _, _, h2, _, _, ⟨h3, _⟩⟩⟩, _⟩ := ro
    cases h
    cases h2
    cases h3
/-! ### built-ins by values -/
def Dats1 (c : Cn) (H0 H : Hp) : List D → List V → Prop
  | [], vs => vs = []
  | d :: ds, vs => ∃ v r, vs = v :: r ∧ Dat1 c H0 H d v ∧ Dats1 c H0 H ds r
theorem Kps.peeks {c : Cn} {H0 Fr H : Hp} {σ : St} {e : Env} {as : Nat → List Addr} (rp : Rp c H0 Fr H σ e as) : ∀ {vs : List V} {rs : List R} {ds : List D}, Kps c H0 σ vs rs → peeks rs e = some ds → Dats1 c H0 H ds vs
  | [], rs, ds, h, q => by
    have h : rs = [] := h
    subst h
    cases q
    rfl
  | v :: vs, rs, ds, ⟨r, qs, h1, h2, h3⟩, q => by
    subst h1
    have q : (match peek r e, F.peeks qs e with
      | some x, some xs => some (x :: xs)
      | _, _ => none) = some ds := q
    cases q1 : peek r e with
    | none =>
      rw [q1] at q
      cases q
    | some x =>
      cases q2 : F.peeks qs e with
      | none =>
        rw [q1, q2] at q
        cases q
      | some xs =>
        rw [q1, q2] at q
        cases q
        exact ⟨v, vs, rfl, h2.peek rp q1, Kps.peeks rp h3 q2⟩
def CB (c : Cn) (r : List V → Hp → VK → Prop) (f : List D → Option D) : Prop := ∀ (H0 H : Hp) (xs : List V) (ds : List D) (dz : D) (Q : VK), Same H0 H → f ds = some dz → Dats1 c H0 H ds xs → Out c H0 H dz Q → r xs H Q
def CBl (c : Cn) (r : List V → Hp → VK → Prop) (f : List D → Option (List D)) : Prop := ∀ (H0 H : Hp) (xs : List V) (ds : List D) (l : List D) (Q : VK), Same H0 H → f ds = some l → Dats1 c H0 H ds xs → NewL c H0 H l Q → r xs H Q
theorem tI_bi {c : Cn} {r : List V → Hp → VK → Prop} {f : List D → Option D} (h : CB c r f) {σ : St} {H : Hp} {Q : VK} (q : tG t c W (rrR c) (mBi f ms) σ H Q) : tCB r (tG t c W (rrRs c) (mRs ms)) σ H Q := by
  obtain ⟨e, H0, Fr, as, rp, po⟩ := q
  refine ⟨e, H0, Fr, as, rp, po.bind fun rs e1 vs H1 H' s ⟨⟨as1, rp1⟩, ks⟩ po => ?_⟩
  obtain ⟨ds, q1, po⟩ := po.ofO
  obtain ⟨dz, q2, po⟩ := po.ofO
  exact h H1 H' vs ds dz Q rp1.sub q2 (ks.peeks rp1 q1) (po.out rp1)
theorem tI_bl {c : Cn} {r : List V → Hp → VK → Prop} {f : List D → Option (List D)} (h : CBl c r f) {σ : St} {H : Hp} {Q : VK} (q : tG t c W (rrR c) (mBl f ms) σ H Q) : tCB r (tG t c W (rrRs c) (mRs ms)) σ H Q := by
  obtain ⟨e, H0, Fr, as, rp, po⟩ := q
  refine ⟨e, H0, Fr, as, rp, po.bind fun rs e1 vs H1 H' s ⟨⟨as1, rp1⟩, ks⟩ po => ?_⟩
  obtain ⟨ds, q1, po⟩ := po.ofO
  obtain ⟨dz, q2, po⟩ := po.ofO
  exact h H1 H' vs ds dz Q rp1.sub q2 (ks.peeks rp1 q1) (po.newL rp1)
end
end F
end

section
set_option Elab.async false
set_option linter.all false
set_option autoImplicit false
set_option maxRecDepth 100000
/-! F layer, part G: operations. -/
namespace F
open PySem PySem.Spec PyProof.Rows L2
section
variable {c : Cn}
theorem Out.of {H0 H : Hp} {d : D} {Q : VK} (h : Out c H0 H d Q) {z : V} (hz : Dat c H0 d z) : Q z H := h.1 z hz
theorem Out.int {H0 H : Hp} {i : Int} {Q : VK} (h : Out c H0 H (.int i) Q) : Q (.int i) H := h.1 _ rfl
theorem Out.bl {H0 H : Hp} {b : Bool} {Q : VK} (h : Out c H0 H (.bl b) Q) : Q (.bl b) H := h.1 _ rfl
theorem Out.str {H0 H : Hp} {x : List Nat} {Q : VK} (h : Out c H0 H (.str x) Q) (hl : x.length ≤ lim) : Q (.str (sS x)) H := h.1 _ ⟨rfl, hl⟩
theorem sS_len (x : List Nat) : (sS x).length = x.length := by simp [sS, Str.length]
theorem sS_app (x y : List Nat) : sS x ++ sS y = sS (x ++ y) := by
  show (⟨(sS x).cps ++ (sS y).cps⟩ : Str) = _
  simp [sS]
theorem sS_tl (x : List Nat) : (sS x).cps.toList = x := by simp [sS]
theorem sS_inj {x y : List Nat} : sS x = sS y ↔ x = y := by
  constructor
  · intro h
    have := congrArg (fun z : Str => z.cps.toList) h
    simpa [sS] using this
  · intro h; rw [h]
def rAddV : R2 := fun x y H Q => (rI0 (fun i j => .int (i + j)) x y H Q) ∨ (∃ i j, x = .str i ∧ y = .str j ∧ i.length + j.length ≤ sizeLine ∧ Q (.str (i ++ j)) H)
theorem op_addV {X : Cx} : OpR X (binaryOp .Add) rAddV := OpR.or op_add op_add_str
theorem v_add : VOp2 c rAddV addD := by
  intro H0 H x y dx dy dz Q s e hx hy o
  cases dx <;> cases dy <;> try cases e
  · cases hx
    cases hy
    exact .inl ⟨_, _, rfl, rfl, o.int⟩
  · rename_i a b
    obtain ⟨rfl, h1⟩ := hx
    obtain ⟨rfl, h2⟩ := hy
    have e : (if a.length + b.length ≤ lim then some (D.str (a ++ b)) else none) = some dz := e
    by_cases hl : a.length + b.length ≤ lim
    · rw [if_pos hl] at e
      cases e
      refine .inr ⟨_, _, rfl, rfl, by rw [sS_len, sS_len, sizeLine_lim]; exact hl, ?_⟩
      rw [sS_app]
      exact o.str (by simpa using hl)
    · rw [if_neg hl] at e
      cases e
theorem v_sub : VOp2 c (rI0 fun i j => .int (i - j)) subD := by
  intro H0 H x y dx dy dz Q s e hx hy o
  cases dx <;> cases dy <;> try cases e
  cases hx
  cases hy
  exact ⟨_, _, rfl, rfl, o.int⟩
theorem v_mul : VOp2 c (rI CMul fun i j => .int (i * j)) mulD := by
  intro H0 H x y dx dy dz Q s e hx hy o
  cases dx <;> cases dy <;> try cases e
  rename_i i j
  cases hx
  cases hy
  have e : (if mulOk i j = true then some (D.int (i * j)) else none) = some dz := e
  by_cases hm : mulOk i j = true
  · rw [if_pos hm] at e
    cases e
    refine ⟨_, _, rfl, rfl, ?_, o.int⟩
    unfold mulOk at hm
    simp only [Bool.or_eq_true, Bool.and_eq_true, decide_eq_true_eq] at hm
    unfold CMul
    omega
  · rw [if_neg hm] at e
    cases e
theorem v_div : VOp2 c (rI CDiv fun i j => .int (i / j)) divD := by
  intro H0 H x y dx dy dz Q s e hx hy o
  cases dx <;> cases dy <;> try cases e
  rename_i i j
  cases hx
  cases hy
  have e : (if 0 < j ∧ j < 1073741824 then some (D.int (i / j)) else none) = some dz := e
  by_cases hm : 0 < j ∧ j < 1073741824
  · rw [if_pos hm] at e
    cases e
    exact ⟨_, _, rfl, rfl, hm, o.int⟩
  · rw [if_neg hm] at e
    cases e
theorem v_mod : VOp2 c (rI (fun _ j => 0 < j) fun i j => .int (i % j)) modD := by
  intro H0 H x y dx dy dz Q s e hx hy o
  cases dx <;> cases dy <;> try cases e
  rename_i i j
  cases hx
  cases hy
  have e : (if 0 < j then some (D.int (i % j)) else none) = some dz := e
  by_cases hm : 0 < j
  · rw [if_pos hm] at e
    cases e
    exact ⟨_, _, rfl, rfl, hm, o.int⟩
  · rw [if_neg hm] at e
    cases e
theorem v_pow : VOp2 c (rI CPow fun i j => .int (i ^ j.toNat)) powD := by
  intro H0 H x y dx dy dz Q s e hx hy o
  cases dx <;> cases dy <;> try cases e
  rename_i i j
  cases hx
  cases hy
  have e : (if 0 ≤ j ∧ j ≤ 1000000 ∧ i.natAbs < 18446744073709551616 then some (D.int (i ^ j.toNat)) else none) = some dz := e
  by_cases hm : 0 ≤ j ∧ j ≤ 1000000 ∧ i.natAbs < 18446744073709551616
  · rw [if_pos hm] at e
    cases e
    exact ⟨_, _, rfl, rfl, ⟨hm.1, hm.2.1, by have := hm.2.2; omega⟩, o.int⟩
  · rw [if_neg hm] at e
    cases e
theorem v_neg : VOp1 c (rU fun i => .int (-i)) negD := by
  intro H0 H x dx dz Q s e hx o
  cases dx <;> try cases e
  cases hx
  exact ⟨_, rfl, o.int⟩
theorem ip_addV : VIp c (ipI fun i j => i + j) addI := by
  intro H0 H x y dx dy dz Q s e hx hy o
  cases dx <;> cases dy <;> try cases e
  cases hx
  cases hy
  exact ⟨_, _, rfl, rfl, o.int⟩
theorem ip_subV : VIp c (ipI fun i j => i - j) subD := by
  intro H0 H x y dx dy dz Q s e hx hy o
  cases dx <;> cases dy <;> try cases e
  cases hx
  cases hy
  exact ⟨_, _, rfl, rfl, o.int⟩
/-! ### order -/
def rLtV : R2 := fun x y H Q => (rI0 (fun i j => .bl (decide (i < j))) x y H Q) ∨ (∃ i j, x = .str i ∧ y = .str j ∧ Q (.bl (decide (i.cps.toList < j.cps.toList))) H)
theorem op_ltV {X : Cx} : OpR X (compareOp .Lt) rLtV := OpR.or op_lt op_lt_str
theorem v_lt : VOp2 c rLtV ltD := by
  intro H0 H x y dx dy dz Q s e hx hy o
  cases dx <;> cases dy <;> try cases e
  · cases hx
    cases hy
    exact .inl ⟨_, _, rfl, rfl, o.bl⟩
  · obtain ⟨rfl, h1⟩ := hx
    obtain ⟨rfl, h2⟩ := hy
    exact .inr ⟨_, _, rfl, rfl, by rw [sS_tl, sS_tl]; exact o.bl⟩
def rGtV : R2 := fun x y H Q => (rI0 (fun i j => .bl (decide (j < i))) x y H Q) ∨ (∃ i j, x = .str i ∧ y = .str j ∧ Q (.bl (decide (j.cps.toList < i.cps.toList))) H)
theorem op_gtV {X : Cx} : OpR X (compareOp .Gt) rGtV := OpR.or op_gt op_gt_str
theorem v_gt : VOp2 c rGtV gtD := by
  intro H0 H x y dx dy dz Q s e hx hy o
  cases dx <;> cases dy <;> try cases e
  · cases hx
    cases hy
    exact .inl ⟨_, _, rfl, rfl, o.bl⟩
  · obtain ⟨rfl, h1⟩ := hx
    obtain ⟨rfl, h2⟩ := hy
    exact .inr ⟨_, _, rfl, rfl, by rw [sS_tl, sS_tl]; exact o.bl⟩
theorem v_ge : VOp2 c (rI0 fun i j => .bl (decide (j ≤ i))) geD := by
  intro H0 H x y dx dy dz Q s e hx hy o
  cases dx <;> cases dy <;> try cases e
  cases hx
  cases hy
  exact ⟨_, _, rfl, rfl, o.bl⟩
/-! ### is None -/
theorem isN_of {H0 H : Hp} {d : D} {v : V} (h : Dat1 c H0 H d v) : decide (v = .non) = isNone d := by
  cases d with
  | non => cases h; rfl
  | bl b => cases h; rfl
  | int i => cases h; rfl
  | str x => obtain ⟨rfl, _⟩ := h; rfl
  | tup l => obtain ⟨_, a, vs, rfl, _⟩ := h; rfl
  | lst l => obtain ⟨_, a, vs, rfl, _⟩ := h; rfl
  | dct l => obtain ⟨_, a, vs, rfl, _⟩ := h; rfl
  | obj k l => obtain ⟨a, dx, fs, rfl, _⟩ := h; rfl
  | ex k d => obtain ⟨a, rfl⟩ := c.exR _ _ _ _ h; rfl
theorem v_isN : VOp2 c (fun x y H Q => y = .non ∧ Q (.bl (decide (x = .non))) H) isD := by
  intro H0 H x y dx dy dz Q s e hx hy o
  cases dy <;> try cases e
  cases hy
  exact ⟨rfl, by rw [isN_of hx]; exact o.bl⟩
theorem v_notN : VOp2 c (fun x y H Q => y = .non ∧ Q (.bl (!decide (x = .non))) H) isntD := by
  intro H0 H x y dx dy dz Q s e hx hy o
  cases dy <;> try cases e
  cases hy
  exact ⟨rfl, by rw [isN_of hx]; exact o.bl⟩
/-! ### equality of plain data -/
mutual
def toP : D → PyData
  | .non => .none
  | .bl b => .bool b
  | .int i => .int i
  | .str x => .str (sS x)
  | .tup l => .tuple (toPs l)
  | .lst l => .list (toPs l)
  | .dct _ => .none
  | .obj _ _ => .none
  | .ex _ _ => .none
def toPs : List D → List PyData
  | [] => []
  | d :: ds => toP d :: toPs ds
end
mutual
theorem toP_plain : ∀ d : D, (toP d).plain = true
  | .non | .bl _ | .int _ | .str _ | .dct _ | .obj _ _ | .ex _ _ => rfl
  | .tup l => toPs_plain l
  | .lst l => toPs_plain l
theorem toPs_plain : ∀ l : List D, PyData.plainAll (toPs l) = true
  | [] => rfl
  | d :: ds => by
    show ((toP d).plain && PyData.plainAll (toPs ds)) = true
    rw [toP_plain d, toPs_plain ds]
    rfl
end
mutual
theorem toP_depth : ∀ d : D, (toP d).depth = d.dp
  | .non | .bl _ | .int _ | .str _ | .dct _ | .obj _ _ | .ex _ _ => rfl
  | .tup l => by
    show PyData.depthAll (toPs l) + 1 = dps l + 1
    rw [toPs_depth l]
  | .lst l => by
    show PyData.depthAll (toPs l) + 1 = dps l + 1
    rw [toPs_depth l]
theorem toPs_depth : ∀ l : List D, PyData.depthAll (toPs l) = dps l
  | [] => rfl
  | d :: ds => by
    show max (toP d).depth (PyData.depthAll (toPs ds)) = max d.dp (dps ds)
    rw [toP_depth d, toPs_depth ds]
end
mutual
theorem eqB_eqv : ∀ a b : D, a.pl = true → b.pl = true → PyData.eqv (toP a) (toP b) = eqB a b
  | a, .dct _, _, h => by cases h
  | a, .obj _ _, _, h => by cases h
  | a, .ex _ _, _, h => by cases h
  | .dct _, _, h, _ => by cases h
  | .obj _ _, _, h, _ => by cases h
  | .ex _ _, _, h, _ => by cases h
  | .non, .non, _, _ => rfl
  | .non, .bl _, _, _ => rfl
  | .non, .int _, _, _ => rfl
  | .non, .str _, _, _ => rfl
  | .non, .tup _, _, _ => rfl
  | .non, .lst _, _, _ => rfl
  | .bl _, .non, _, _ => rfl
  | .bl _, .bl _, _, _ => rfl
  | .bl _, .int _, _, _ => rfl
  | .bl _, .str _, _, _ => rfl
  | .bl _, .tup _, _, _ => rfl
  | .bl _, .lst _, _, _ => rfl
  | .int _, .non, _, _ => rfl
  | .int _, .bl _, _, _ => rfl
  | .int _, .int _, _, _ => rfl
  | .int _, .str _, _, _ => rfl
  | .int _, .tup _, _, _ => rfl
  | .int _, .lst _, _, _ => rfl
  | .str _, .non, _, _ => rfl
  | .str _, .bl _, _, _ => rfl
  | .str _, .int _, _, _ => rfl
  | .str x, .str y, _, _ => by
    show (sS x == sS y) = (x == y)
    by_cases h : x = y
    · subst h; simp
    · rw [beq_eq_false_iff_ne.mpr h, beq_eq_false_iff_ne.mpr fun z => h (sS_inj.mp z)]
  | .str _, .tup _, _, _ => rfl
  | .str _, .lst _, _, _ => rfl
  | .tup _, .non, _, _ => rfl
  | .tup _, .bl _, _, _ => rfl
  | .tup _, .int _, _, _ => rfl
  | .tup _, .str _, _, _ => rfl
  | .tup _, .lst _, _, _ => rfl
  | .tup l, .tup m, h, g => eqBs_eqv l m h g
  | .lst _, .non, _, _ => rfl
  | .lst _, .bl _, _, _ => rfl
  | .lst _, .int _, _, _ => rfl
  | .lst _, .str _, _, _ => rfl
  | .lst _, .tup _, _, _ => rfl
  | .lst l, .lst m, h, g => eqBs_eqv l m h g
theorem eqBs_eqv : ∀ l m : List D, pls l = true → pls m = true → PyData.eqvAll (toPs l) (toPs m) = eqBs l m
  | [], [], _, _ => rfl
  | [], _ :: _, _, _ => rfl
  | _ :: _, [], _, _ => rfl
  | a :: l, b :: m, h, g => by
    have h : (a.pl && pls l) = true := h
    have g : (b.pl && pls m) = true := g
    rw [Bool.and_eq_true] at h g
    show (PyData.eqv (toP a) (toP b) && PyData.eqvAll (toPs l) (toPs m)) = (eqB a b && eqBs l m)
    rw [eqB_eqv a b h.1 g.1, eqBs_eqv l m h.2 g.2]
end
mutual
theorem Dat.dp {H : Hp} : ∀ (d : D) (v : V), d.pl = true → Dat c H d v → Dp c.K H v (toP d)
  | .non, _, _, h => by cases h; exact .non
  | .bl _, _, _, h => by cases h; exact .bl _
  | .int _, _, _, h => by cases h; exact .int _
  | .str _, _, _, ⟨h, _⟩ => by cases h; exact .str _
  | .tup l, _, p, ⟨_, a, vs, h1, h2, h3⟩ => by cases h1; exact .tup h2 (Dats.dp l vs p h3)
  | .lst l, _, p, ⟨_, a, vs, h1, h2, h3⟩ => by cases h1; exact .lst h2 (Dats.dp l vs p h3)
  | .dct _, _, p, _ => by cases p
  | .obj _ _, _, p, _ => by cases p
  | .ex _ _, _, p, _ => by cases p
theorem Dats.dp {H : Hp} : ∀ (l : List D) (vs : List V), pls l = true → Dats c H l vs → DpAll c.K H vs (toPs l)
  | [], _, _, h => by
    have h : _ = _ := h
    subst h
    exact .nil
  | d :: ds, _, p, ⟨v, r, h1, h2, h3⟩ => by
    have p : (d.pl && pls ds) = true := p
    rw [Bool.and_eq_true] at p
    subst h1
    exact .cons (Dat.dp d v p.1 h2) (Dats.dp ds r p.2 h3)
end
def rEqP (K : PySem.W.Frag) : R2 := fun x y H Q => ∃ d e, Dp K H x d ∧ Dp K H y e ∧ d.plain = true ∧ e.plain = true ∧ min d.depth e.depth ≤ 50 ∧ Q (.bl (PyData.eqv d e)) H
def rNeP (K : PySem.W.Frag) : R2 := fun x y H Q => ∃ d e, Dp K H x d ∧ Dp K H y e ∧ d.plain = true ∧ e.plain = true ∧ min d.depth e.depth ≤ 50 ∧ Q (.bl (!PyData.eqv d e)) H
theorem op_eqP {X : Cx} (hu : X.A.units + 64 < cLine) : OpR X (compareOp .Eq) (rEqP X.K) := by
  intro pins s σ H x y v u Q I rx ry ⟨d, e, hd, he, pd, pe, hm, q⟩
  obtain ⟨as, r1⟩ := Dp.reads I d x v hd rx
  obtain ⟨bs, r2⟩ := Dp.reads I e y u he ry
  exact SeqAt.eq_plain r1 r2 pd pe (by omega) ⟨.bl _, H, I, rfl, q⟩
theorem op_neP {X : Cx} (hu : X.A.units + 64 < cLine) : OpR X (compareOp .NotEq) (rNeP X.K) := by
  intro pins s σ H x y v u Q I rx ry ⟨d, e, hd, he, pd, pe, hm, q⟩
  obtain ⟨as, r1⟩ := Dp.reads I d x v hd rx
  obtain ⟨bs, r2⟩ := Dp.reads I e y u he ry
  exact SeqAt.ne_plain r1 r2 pd pe (by omega) ⟨.bl _, H, I, rfl, q⟩
theorem cmpOk_of {a b : D} (h : cmpOk a b = true) : a.pl = true ∧ b.pl = true ∧ min (toP a).depth (toP b).depth ≤ 50 := by
  unfold cmpOk at h
  simp only [Bool.and_eq_true, Bool.or_eq_true, decide_eq_true_eq] at h
  obtain ⟨⟨h1, h2⟩, h3⟩ := h
  rw [toP_depth, toP_depth]
  exact ⟨h1, h2, by omega⟩
theorem v_eq : VOp2 c (rEqP c.K) eqD := by
  intro H0 H x y dx dy dz Q s e hx hy o
  unfold eqD at e
  split at e
  · rename_i h
    cases e
    obtain ⟨h1, h2, h3⟩ := cmpOk_of h
    exact ⟨_, _, Dat.dp _ _ h1 (hx.dat s), Dat.dp _ _ h2 (hy.dat s), toP_plain _, toP_plain _, h3, by rw [eqB_eqv _ _ h1 h2]; exact o.bl⟩
  · cases e
theorem v_ne : VOp2 c (rNeP c.K) neD := by
  intro H0 H x y dx dy dz Q s e hx hy o
  unfold neD at e
  split at e
  · rename_i h
    cases e
    obtain ⟨h1, h2, h3⟩ := cmpOk_of h
    exact ⟨_, _, Dat.dp _ _ h1 (hx.dat s), Dat.dp _ _ h2 (hy.dat s), toP_plain _, toP_plain _, h3, by rw [eqB_eqv _ _ h1 h2]; exact o.bl⟩
  · cases e
/-! ### in -/
def rInP (K : PySem.W.Frag) (neg : Bool) : R2 := fun x y H Q => ∃ p xs d ds, y = .ref p ∧ (SqL K H p xs ∨ SqT K H p xs) ∧ DpAll K H xs ds ∧ Dp K H x d ∧ PyData.plainAll ds = true ∧ d.plain = true ∧ d.depth ≤ 50 ∧ Q (.bl (if neg then !(ds.any fun y => PyData.eqv y d) else ds.any fun y => PyData.eqv y d)) H
theorem op_inP {X : Cx} (hu : X.A.units + 64 < cLine) : OpR X (compareOp .In) (rInP X.K false) := by
  intro pins s σ H x y v u Q I rx ry ⟨p, xs, d, ds, e, hs, hds, hd, pds, pd, hm, q⟩
  subst e
  obtain ⟨as, r1⟩ := Dp.reads I d x v hd rx
  rcases hs with hs | hs
  · obtain ⟨bs, r2⟩ := Dp.reads I (.list ds) _ u (.lst hs hds) ry
    exact SeqAt.in_list_data r2 r1 pds pd (by omega) ⟨.bl _, H, I, rfl, q⟩
  · obtain ⟨bs, r2⟩ := Dp.reads I (.tuple ds) _ u (.tup hs hds) ry
    exact SeqAt.in_tuple_data r2 r1 pds pd (by omega) ⟨.bl _, H, I, rfl, q⟩
theorem op_notInP {X : Cx} (hu : X.A.units + 64 < cLine) : OpR X (compareOp .NotIn) (rInP X.K true) := by
  intro pins s σ H x y v u Q I rx ry ⟨p, xs, d, ds, e, hs, hds, hd, pds, pd, hm, q⟩
  subst e
  obtain ⟨as, r1⟩ := Dp.reads I d x v hd rx
  rcases hs with hs | hs
  · obtain ⟨bs, r2⟩ := Dp.reads I (.list ds) _ u (.lst hs hds) ry
    exact SeqAt.notIn_list_data r2 r1 pds pd (by omega) ⟨.bl _, H, I, rfl, q⟩
  · obtain ⟨bs, r2⟩ := Dp.reads I (.tuple ds) _ u (.tup hs hds) ry
    exact SeqAt.notIn_tuple_data r2 r1 pds pd (by omega) ⟨.bl _, H, I, rfl, q⟩
theorem any_toP {x : D} (hx : x.pl = true) : ∀ {l : List D}, pls l = true → ((toPs l).any fun y => PyData.eqv y (toP x)) = l.any fun y => eqB y x
  | [], _ => rfl
  | d :: ds, h => by
    have h : (d.pl && pls ds) = true := h
    rw [Bool.and_eq_true] at h
    show (PyData.eqv (toP d) (toP x) || (toPs ds).any fun y => PyData.eqv y (toP x)) = (eqB d x || ds.any fun y => eqB y x)
    rw [eqB_eqv d x h.1 hx, any_toP hx h.2]
def rInV (K : PySem.W.Frag) (neg : Bool) : R2 := fun x y H Q => rInP K neg x y H Q ∨ ∃ (k : Nat) (z : Str), x = .str ⟨#[k]⟩ ∧ y = .str z ∧ Q (.bl (if neg then !decide (k ∈ z.cps.toList) else decide (k ∈ z.cps.toList))) H
theorem op_inV {X : Cx} (hu : X.A.units + 64 < cLine) : OpR X (compareOp .In) (rInV X.K false) := OpR.or (op_inP hu) op_in_sign
theorem op_notInV {X : Cx} (hu : X.A.units + 64 < cLine) : OpR X (compareOp .NotIn) (rInV X.K true) := OpR.or (op_notInP hu) op_notIn_sign
theorem v_inB {H0 H : Hp} {x y : V} {dx dy : D} {b neg : Bool} {Q : VK} (s : Same H0 H) (e : inB dx dy = some b) (hx : Dat1 c H0 H dx x) (hy : Dat1 c H0 H dy y) (q : Q (.bl (if neg then !b else b)) H) : rInV c.K neg x y H Q := by
  have seq : ∀ {l : List D}, (if dx.pl && pls l && decide (dx.dp ≤ 50) then some (l.any fun y => eqB y dx) else none) = some b → (∃ p vs, y = .ref p ∧ (SqL c.K H p vs ∨ SqT c.K H p vs) ∧ Dats c H0 l vs) → rInV c.K neg x y H Q := fun {l} e ⟨p, vs, h1, h2, h3⟩ => by
    split at e
    · rename_i h
      cases e
      simp only [Bool.and_eq_true, decide_eq_true_eq] at h
      obtain ⟨⟨g1, g2⟩, g3⟩ := h
      exact .inl ⟨p, vs, toP dx, toPs l, h1, h2, Dats.dp l vs g2 (Dats.mono s _ _ h3), Dat.dp dx x g1 (hx.dat s), toPs_plain l, toP_plain dx, by rw [toP_depth]; exact g3, by rw [any_toP g1 g2]; exact q⟩
    · cases e
  cases dy with
  | str z =>
    unfold inB at e
    split at e
    · rename_i k y' e1 e2
      cases e2
      cases e
      obtain ⟨rfl, _⟩ := hx
      obtain ⟨rfl, _⟩ := hy
      exact .inr ⟨_, sS z, rfl, rfl, by rw [sS_tl]; exact q⟩
    · rename_i e2; cases e2
    · rename_i e2; cases e2
    · cases e
  | lst l =>
    obtain ⟨_, p, vs, h1, h2, h3⟩ := hy
    refine seq (l := l) ?_ ⟨p, vs, h1, .inl h2, h3⟩
    unfold inB at e
    split at e
    · rename_i e2; cases e2
    · rename_i e2; cases e2; exact e
    · rename_i e2; cases e2
    · cases e
  | tup l =>
    obtain ⟨_, p, vs, h1, h2, h3⟩ := hy
    refine seq (l := l) ?_ ⟨p, vs, h1, .inr h2, h3⟩
    unfold inB at e
    split at e
    · rename_i e2; cases e2
    · rename_i e2; cases e2
    · rename_i e2; cases e2; exact e
    · cases e
  | _ =>
    unfold inB at e
    split at e
    · rename_i e2; cases e2
    · rename_i e2; cases e2
    · rename_i e2; cases e2
    · cases e
theorem v_in : VOp2 c (rInV c.K false) inD := by
  intro H0 H x y dx dy dz Q s e hx hy o
  unfold inD at e
  cases q : inB dx dy with
  | none =>
    rw [q] at e
    cases e
  | some b =>
    rw [q] at e
    cases e
    exact v_inB s q hx hy o.bl
theorem v_notIn : VOp2 c (rInV c.K true) ninD := by
  intro H0 H x y dx dy dz Q s e hx hy o
  unfold ninD at e
  cases q : inB dx dy with
  | none =>
    rw [q] at e
    cases e
  | some b =>
    rw [q] at e
    cases e
    exact v_inB s q hx hy o.bl
/-! ### items -/
theorem atI_dats {H0 : Hp} {l : List D} {vs : List V} {i : Int} {d : D} (h : Dats c H0 l vs) (e : getI l i = some d) : ∃ v, atI vs i = some v ∧ Dat c H0 d v := by
  unfold getI at e
  unfold atI
  rw [h.len]
  cases q : ixI l.length i with
  | none =>
    rw [q] at e
    cases e
  | some j =>
    rw [q] at e
    have q2 : ixN l.length i = some j := q
    rw [q2]
    exact h.get (i := j) e
theorem v_ix : VOp2 c (rIx c.K) ixD := by
  intro H0 H x y dx dy dz Q s e hx hy o
  cases dx with
  | lst l =>
    cases dy with
    | int i =>
      obtain ⟨_, p, vs, rfl, h2, h3⟩ := hx
      cases hy
      obtain ⟨v, h4, h5⟩ := atI_dats h3 e
      exact .inl ⟨p, vs, i, v, rfl, rfl, h2, h4, o.of h5⟩
    | _ => cases e
  | tup l =>
    cases dy with
    | int i =>
      obtain ⟨_, p, vs, rfl, h2, h3⟩ := hx
      cases hy
      obtain ⟨v, h4, h5⟩ := atI_dats h3 e
      exact .inr (.inl ⟨p, vs, i, v, rfl, rfl, h2, h4, o.of h5⟩)
    | _ => cases e
  | str z =>
    cases dy with
    | int i =>
      obtain ⟨rfl, hl⟩ := hx
      cases hy
      have e : (getI z i).map (fun k => D.str [k]) = some dz := e
      cases q : getI z i with
      | none =>
        rw [q] at e
        cases e
      | some k =>
        rw [q] at e
        cases e
        refine .inr (.inr ⟨sS z, i, k, rfl, rfl, by rw [sS_len, sizeLine_lim]; exact hl, by rw [sS_tl]; exact q, ?_⟩)
        exact o.of (z := .str ⟨#[k]⟩) ⟨rfl, by simp [lim]⟩
    | _ => cases e
  | _ => cases dy <;> cases e
end
end F
end

section
set_option Elab.async false
set_option linter.all false
set_option autoImplicit false
set_option maxRecDepth 100000
/-! F layer, part H: defs, built-ins, methods, what is walked, match. -/
namespace F
open PySem PySem.Spec PyProof.Rows L2
/-! ### a def keeps its promise -/
theorem mergeO_eq : ∀ {os os' : List O}, os'.length = os.length → (mergeO os os').length = os.length
  | [], [], _ => rfl
  | [], _ :: _, h => by simp at h
  | o :: os, [], h => by simp at h
  | o :: os, o' :: os', h => by
    have := mergeO_eq (os := os) (os' := os') (by simpa using h)
    cases o <;> simp [mergeO, this]
theorem mergeO_get : ∀ {os os' : List O} {i : Nat} {o : O}, (mergeO os os')[i]? = some o → (∃ d, os[i]? = some (.sh d) ∧ o = .sh d) ∨ (os'[i]? = some o ∧ ∃ o1, os[i]? = some o1 ∧ ∀ d, o1 ≠ .sh d)
  | [], _, i, o, h => by simp [mergeO] at h
  | .sh d :: os, [], i, o, h => by simp [mergeO] at h
  | .fl _ :: os, [], i, o, h => by simp [mergeO] at h
  | .fd _ :: os, [], i, o, h => by simp [mergeO] at h
  | .fo _ _ :: os, [], i, o, h => by simp [mergeO] at h
  | o1 :: os, o2 :: os', 0, o, h => by
    cases o1 with
    | sh d =>
      simp [mergeO] at h
      exact .inl ⟨d, rfl, h.symm⟩
    | fl l =>
      simp [mergeO] at h
      exact .inr ⟨by simp [h], _, rfl, fun d z => by cases z⟩
    | fd l =>
      simp [mergeO] at h
      exact .inr ⟨by simp [h], _, rfl, fun d z => by cases z⟩
    | fo k l =>
      simp [mergeO] at h
      exact .inr ⟨by simp [h], _, rfl, fun d z => by cases z⟩
  | o1 :: os, o2 :: os', i + 1, o, h => by
    have : (mergeO os os')[i]? = some o := by
      cases o1 <;> simpa [mergeO] using h
    simpa using mergeO_get this
theorem endF_get {n : Nat} {e : Env} {os' : List O} (h : endF n e = some os') : os'.length = min n e.length ∧ ∀ (i : Nat) (o : O), os'[i]? = some o → slot e i = some o := by
  unfold endF at h
  have key : ∀ {l : List (Option O)} {os' : List O}, allO l = some os' → os'.length = l.length ∧ ∀ (i : Nat) (o : O), os'[i]? = some o → l[i]? = some (some o) := by
    intro l
    induction l with
    | nil =>
      intro os' h
      cases h
      simp
    | cons x l ih =>
      intro os' h
      cases x with
      | none => cases h
      | some a =>
        have h : (allO l).map (a :: ·) = some os' := h
        cases q : allO l with
        | none =>
          rw [q] at h
          cases h
        | some b =>
          rw [q] at h
          cases h
          obtain ⟨h1, h2⟩ := ih q
          refine ⟨by simp [h1], fun i o q => ?_⟩
          cases i with
          | zero => simpa using q
          | succ i => simpa using h2 i o (by simpa using q)
  obtain ⟨h1, h2⟩ := key h
  refine ⟨by rw [h1, List.length_take], fun i o q => ?_⟩
  have := h2 i o q
  rw [List.getElem?_take] at this
  split at this
  · unfold slot
    rw [this]
  · cases this
def asB (os : List O) (as' : Nat → List Addr) (i : Nat) : List Addr := match os[i]? with
  | some (.sh _) => []
  | some _ => as' i
  | none => []
/-- the arguments' things behind the body -/
theorem args_back {c : Cn} {H0 H1 Fr Fr2 H H' : Hp} {vs : List V} {os os' : List O} {n : Nat} {σ' : St} {e : Env} {as as' : Nat → List Addr} (rp0 : Rp c H0 Fr H (vs.map some) (os.map some) as) (hn : vs.length = n) (s : Same H0 H1)
    (hp : ∀ (i : Nat) (o : O), os[i]? = some o → (∀ d, o ≠ .sh d) → σ'[i]? = (vs.map some)[i]?) (r : Rp c H1 Fr2 H' σ' e as') (he : endF n e = some os') (hl : n ≤ e.length) :
    ∃ as2, Rp c H1 Fr2 H' (vs.map some) ((mergeO os os').map some) as2 := by
  obtain ⟨h1, h2⟩ := endF_get he
  have hos : os.length = n := by
    have := rp0.len
    simpa [hn] using this
  have hos' : os'.length = os.length := by omega
  have hm := mergeO_eq hos'
  -- shared arguments: from the start; the others: from the end
  have own : ∀ i o, slot ((mergeO os os').map some) i = some o → (∃ d, os[i]? = some (.sh d) ∧ o = .sh d) ∨ (slot e i = some o ∧ σ'[i]? = (vs.map some)[i]? ∧ ∀ d, os[i]? ≠ some (.sh d)) := fun i o q => by
    have q2 : (mergeO os os')[i]? = some o := by
      unfold slot at q
      rw [List.getElem?_map] at q
      cases z : (mergeO os os')[i]? with
      | none => rw [z] at q; cases q
      | some x => rw [z] at q; simpa using q
    rcases mergeO_get q2 with z | ⟨z1, o1, z2, z3⟩
    · exact .inl z
    · refine .inr ⟨h2 i o z1, hp i o1 z2 z3, fun d z => ?_⟩
      rw [z2] at z
      exact z3 d (by simpa using z)
  refine ⟨asB os as', by simp [hm, hos, hn], r.sub, r.fr, fun i o q => ?_, fun i a ha => ?_, fun i j a ha hj => ?_, fun i => ?_, fun i q => ?_, r.tab.sub fun i a z => ⟨i, by
    unfold asB at z
    split at z
    · cases z
    · exact z
    · cases z⟩⟩
  · rcases own i o q with ⟨d, z1, rfl⟩ | ⟨z1, z2, z3⟩
    · obtain ⟨v, g1, g2⟩ := rp0.own i (.sh d) (by unfold slot; rw [List.getElem?_map, z1]; rfl)
      exact ⟨v, g1, by unfold asB; rw [z1]; exact ⟨rfl, Dat.mono s _ _ g2.2⟩⟩
    · obtain ⟨v, g1, g2⟩ := r.own i o z1
      refine ⟨v, by rw [← z2]; exact g1, ?_⟩
      unfold asB
      cases z : os[i]? with
      | none =>
        have hlt := slot_lt q
        have : i < os.length := by simpa [hm] using hlt
        rw [List.getElem?_eq_none_iff] at z
        omega
      | some o1 =>
        cases o1 with
        | sh d => exact absurd z (z3 d)
        | fl l => exact g2
        | fd l => exact g2
        | fo k l => exact g2
  · unfold asB at ha
    split at ha
    · cases ha
    · exact r.off i a ha
    · cases ha
  · unfold asB at ha hj
    split at ha
    · cases ha
    · split at hj
      · cases hj
      · exact r.sep i j a ha hj
      · cases hj
    · cases ha
  · unfold asB
    split
    · exact List.nodup_nil
    · exact r.nd i
    · exact List.nodup_nil
  · have q2 : (mergeO os os')[i]? = none := by
      unfold slot at q
      rw [List.getElem?_map] at q
      cases z : (mergeO os os')[i]? with
      | none => rfl
      | some x => rw [z] at q; cases q
    have : os[i]? = none := by
      rw [List.getElem?_eq_none_iff] at q2 ⊢
      omega
    unfold asB
    rw [this]
section
variable {P : Program} {w : World} {K : PySem.W.Frag} {mg : Str → Option Value} {base : Heap} {t : Tb}
theorem gdO_get : ∀ {pr : Nat → Bool} {os : List O} {j i : Nat} {o : O}, gdO pr j os = true → os[i]? = some o → (∀ d, o ≠ .sh d) → pr (j + i) = true
  | pr, [], j, i, o, h, q, _ => by simp at q
  | pr, o1 :: os, j, 0, o, h, q, z => by
    simp at q
    subst q
    cases o1 with
    | sh d => exact absurd rfl (z d)
    | fl l => exact (Bool.and_eq_true_iff.mp (show (pr j && gdO pr (j + 1) os) = true from h)).1
    | fd l => exact (Bool.and_eq_true_iff.mp (show (pr j && gdO pr (j + 1) os) = true from h)).1
    | fo k l => exact (Bool.and_eq_true_iff.mp (show (pr j && gdO pr (j + 1) os) = true from h)).1
  | pr, o1 :: os, j, i + 1, o, h, q, z => by
    have h2 : gdO pr (j + 1) os = true := by
      cases o1 with
      | sh d => exact h
      | fl l => exact (Bool.and_eq_true_iff.mp (show (pr j && gdO pr (j + 1) os) = true from h)).2
      | fd l => exact (Bool.and_eq_true_iff.mp (show (pr j && gdO pr (j + 1) os) = true from h)).2
      | fo k l => exact (Bool.and_eq_true_iff.mp (show (pr j && gdO pr (j + 1) os) = true from h)).2
    have := gdO_get (i := i) h2 (by simpa using q) z
    rw [show j + (i + 1) = j + 1 + i by omega]
    exact this
theorem Rp.pad {c : Cn} {H0 Fr H : Hp} {σ : St} {e : Env} {as : Nat → List Addr} (r : Rp c H0 Fr H σ e as) (j : Nat) : ∃ as', Rp c H0 Fr H (σ ++ List.replicate j none) (e ++ List.replicate j none) as' := by
  refine r.re (by simp [r.len]) id (fun i o q => ?_) (fun i j _ _ _ _ h => h)
  by_cases hi : i < e.length
  · rw [slot_app_l hi] at q
    exact ⟨q, by rw [id, get_app_l (by rw [← r.len]; exact hi)]⟩
  · obtain ⟨k, rfl⟩ : ∃ k, i = e.length + k := ⟨i - e.length, by omega⟩
    rw [slot_app_r] at q
    unfold slot at q
    split at q
    · rename_i z
      have := List.mem_of_getElem? z
      simp at this
    · cases q
/-- a def of the text, its code object known, where nothing is being shown -/
theorem okC {x qual : Str} {params : Arguments} {body : List Stmt} {scope : Scope} {dvs : List V} {kws : List (Str × V)} {f : Addr} {fd : FuncData} {CX : CXT} {N ps : List Str} {k : Nat} {sp : Sp} (F : FunD K x qual params body scope dvs kws f fd) (S : FnScope N ps scope) (len : ∀ vs H Q E, sp vs H Q E → vs.length = ps.length)
    (hb : ∀ (cdv : Value) (A : Around) (outer : List PySem.Env) (s : Shared) (H : Hp) (vs : List V) (Q : VK) (E : XK), cdv = fd.code → PySem.W.codeIn K cdv qual = true → Room k (A.deeper (envOfC qual scope s.heap.objs.size f cdv)) → (A.deeper (envOfC qual scope s.heap.objs.size f cdv)).guards = some [] → sp vs H Q E →
      ∃ t, PSs (cxOf CX P w K mg base N qual scope f cdv A outer s H E) body t ∧ t { nx := fun _ H' => Q .non H', rt := Q } (start N vs) H) : FnQ P w K mg base CX (k + 1) f fd ps sp := by
  obtain ⟨oc, od, dV, kV, doc, pm, an, cdv, ct, osl, rfl, lk, hcd, _, _⟩ := F.ex
  refine ⟨len, fun B out st H ar us vs Q E hr hu e0 bnd rel asked => ?_⟩
  have hl := len _ _ _ _ asked
  have inK : K.In st.heap := e0.mod.kin.keeps fun a o e => (e0.bs a o e).1
  have noL : st.heap.NoLimit := e0.mod.nolimit.keeps fun a o e => (e0.bs a o e).1
  have kinds : ∀ y ∈ ps.zip us, scope.names.lookup y.1 = some .local ∨ (scope.names.lookup y.1 = some .cell ∧ ((cellsFrom (st.heap.objs.size + 1) scope.names []).lookup y.1).isSome = true) := by
    rintro ⟨n, v⟩ hy
    exact (S.par n (List.of_mem_zip hy).1).imp id fun c => ⟨c, PySem.W.cellsFrom_some _ _ _ (.inl c)⟩
  refine codeAny_call_function hr.depth (inK _ _ lk) rfl S.co S.gen rfl (PySem.W.codeRec_of inK hcd) (bnd _ _ _ _ (wpAny_newFunctionEnv_cells S.kind kinds fun en he s1 x => ?_))
  subst he
  refine ⟨noL.keeps x.toInCall.keep, codeAny_func ?_⟩
  obtain ⟨t, ht, hq⟩ := hb cdv B out st H vs Q E rfl hcd (hr.deeper _) (by exact hu) asked
  refine wpAny_mono (ht.run [] s1 (start N vs) H _ (inv_start S hr.hd e0 hl rel x) hq) (fun fl s2 got => ?_) fun _ _ got => got
  match fl, got with
  | .ret u, ⟨v, σ2, H2, J, rv, q⟩ => exact ⟨v, H2, J.os, J.bare, J.base, J.hok, rv, q⟩
  | .next, ⟨σ2, H2, J, q⟩ => exact ⟨.non, H2, J.os, J.bare, J.base, J.hok, rfl, q⟩
  | .brk, ⟨_, _, _, q⟩ => exact q.elim
  | .cont, ⟨_, _, _, q⟩ => exact q.elim
/-- a promise as what the body's plain function must do -/
theorem fn_read {c : Cn} {pr : Nat → Bool} {n j : Nat} {m : MS} {Z : Fn} {vs : List V} {H : Hp} {Q : VK} {E : XK} (hZ : ∀ os, Z os ≠ .bad → Z os = runF pr n j m os) (hsp : spF t c Z n vs H Q E) :
    tS t c (fun cls d _ H => E cls d H) pr m { nx := fun _ H' => Q .non H', rt := Q } (vs.map some ++ List.replicate j none) H := by
  obtain ⟨hvs, os, H0, Fr, as, rp, hm⟩ := hsp
  obtain ⟨as1, rp1⟩ := rp.pad j
  refine ⟨_, H0, Fr, as1, rp1, ?_⟩
  have hne : Z os ≠ .bad := fun z => by
    rw [z] at hm
    exact hm
  rw [hZ os hne] at hm
  unfold runF at hm
  by_cases hg : gdO pr 0 os = true
  case neg =>
    rw [if_neg hg] at hm
    exact hm.elim
  rw [if_pos hg] at hm
  have prot : ∀ {σ' : St}, Prot pr (vs.map some ++ List.replicate j none) σ' → ∀ (i : Nat) (o : O), os[i]? = some o → (∀ d, o ≠ .sh d) → σ'[i]? = (vs.map some)[i]? := fun {σ'} p i o q z => by
    have hlt : i < (vs.map some).length := by
      have h1 := (List.getElem?_eq_some_iff.mp q).1
      have h2 := rp.len
      simp at h2 ⊢
      omega
    have h1 := gdO_get hg q z
    rw [Nat.zero_add] at h1
    rw [p.2 i h1, get_app_l hlt]
  have elen : ∀ {σ' : St} {H1 Fr' H' : Hp} {e : Env} {as' : Nat → List Addr}, Prot pr (vs.map some ++ List.replicate j none) σ' → Rp c H1 Fr' H' σ' e as' → n ≤ e.length := fun p r => by
    rw [r.len, p.1]
    simp [hvs]
  cases q : m (os.map some ++ List.replicate j none) with
  | bad =>
    rw [q] at hm
    exact hm
  | bk e =>
    rw [q] at hm
    exact hm.elim
  | ct e =>
    rw [q] at hm
    exact hm.elim
  | nx e =>
    rw [q] at hm
    cases z : endF n e with
    | none =>
      simp only [finR, z] at hm
    | some os' =>
      simp only [finR, z] at hm
      intro σ' H1 H' as' s1 p r
      obtain ⟨as2, r2⟩ := args_back rp hvs s1 (prot p) r z (elen p r)
      exact hm .non H1 H' s1 (r2.sh1 rfl)
  | rt o e =>
    rw [q] at hm
    cases z : endF n e with
    | none =>
      simp only [finR, z] at hm
    | some os' =>
      simp only [finR, z] at hm
      intro v σ' H1 H' s1 p ⟨bs, as', ow, nd, off, r⟩
      -- the frame with the result's own objects
      have rp2 : Rp c H0 Fr H (vs.map some) (os.map some) as := rp
      obtain ⟨as2, r2⟩ := args_back rp hvs s1 (prot p) r z (elen p r)
      exact hm v H1 H' s1 ⟨bs, as2, ow, nd, off, r2⟩
  | ex k' p' e =>
    rw [q] at hm
    cases z : endF n e with
    | none =>
      simp only [finR, z] at hm
    | some os' =>
      simp only [finR, z] at hm
      intro σ' H1 H' as' cls dx s1 p r xa
      obtain ⟨as2, r2⟩ := args_back rp hvs s1 (prot p) r z (elen p r)
      exact hm H1 H' as2 cls dx s1 r2 xa
/-- THE RULE for a def: its body as a plain function; pr: the parameters whose things it may be lent (never stored to); Z: what it does, told where it is asked -/
theorem fn_F {x qual : Str} {params : Arguments} {body : List Stmt} {scope : Scope} {dvs : List V} {kws : List (Str × V)} {f : Addr} {fd : FuncData} {N ps : List Str} {k n j : Nat} {m : MS} (F : FunD K x qual params body scope dvs kws f fd) (S : FnScope N ps scope) (pr : Nat → Bool) (hn : ps.length = n) (hN : N.length = n + j) (Z : Fn)
    (hZ : ∀ os, Z os ≠ .bad → Z os = runF pr n j m os)
    (hb : ∀ (cdv : Value) (A : Around) (outer : List PySem.Env) (s : Shared) (H : Hp) (E : XK), cdv = fd.code → PySem.W.codeIn K cdv qual = true → Room k (A.deeper (envOfC qual scope s.heap.objs.size f cdv)) → (A.deeper (envOfC qual scope s.heap.objs.size f cdv)).guards = some [] →
      SSs (cxOf (L2.CX P w) P w K mg base N qual scope f cdv A outer s H E) t (fun cls d _ H => E cls d H) pr body m) : FO P w K mg base t (k + 1) f fd ps Z n := by
  refine okC F S (fun vs H Q E h => by rw [h.1, hn]) fun cdv A outer s H vs Q E hc hci hr hu hsp => ⟨_, hb cdv A outer s H E hc hci hr hu, ?_⟩
  have hst : L2.start N vs = vs.map some ++ List.replicate j none := by
    unfold L2.start
    rw [hN, hsp.1, Nat.add_sub_cancel_left]
  rw [hst]
  exact fn_read hZ hsp
end
end F
end

section
set_option Elab.async false
set_option linter.all false
set_option autoImplicit false
set_option maxRecDepth 100000
/-! F layer, part I: built-ins, methods, what is walked, match. -/
namespace F
open PySem PySem.Spec PyProof.Rows L2
section
variable {X : Cx} {t : Tb} {W : WX} {a b : Expr} {es : List Expr} {ma mb : M R} {ms : List (M R)} {pos p : Pos} {x : Str} {id : String}
/-! ### built-ins by values -/
theorem se_bi {r : List V → Hp → VK → Prop} {f : List D → Option D} (hc : CallR X (.builtin id) r) (h : CB (cn X t) r f) (hg : Gl X x) (hm : X.mg x = none) (hv : bootBuiltins x = some (.builtin id)) (ha : SA X t W (a :: es) (mRs ms)) (hn : x ≠ "__name__" := by decide) (hdb : (x == ("__debug__" : Str)) = false := by decide)
    (he : starEach (a :: es) X.env = (false, eval a X.env) :: starEach es X.env := by rfl) (hpl : (backTo pos (starEach es X.env)).any (·.1) = false := by rfl) : SE X t W (.Call (.Name x p) (a :: es) [] pos) (mBi f ms) :=
  PE.imp (pe_callB hc hg hm hv ha hn hdb he hpl) fun _ _ _ q => tI_bi h q
theorem se_ti {r : List V → Hp → VK → Prop} {f : List D → Option D} (hc : CallR X (.type id) r) (h : CB (cn X t) r f) (hg : Gl X x) (hm : X.mg x = none) (hv : bootBuiltins x = some (.type id)) (ha : SA X t W (a :: es) (mRs ms)) (hn : x ≠ "__name__" := by decide) (hdb : (x == ("__debug__" : Str)) = false := by decide)
    (he : starEach (a :: es) X.env = (false, eval a X.env) :: starEach es X.env := by rfl) (hpl : (backTo pos (starEach es X.env)).any (·.1) = false := by rfl) : SE X t W (.Call (.Name x p) (a :: es) [] pos) (mBi f ms) :=
  PE.imp (pe_callTy hc hg hm hv ha hn hdb he hpl) fun _ _ _ q => tI_bi h q
theorem se_tl {r : List V → Hp → VK → Prop} {f : List D → Option (List D)} (hc : CallR X (.type id) r) (h : CBl (cn X t) r f) (hg : Gl X x) (hm : X.mg x = none) (hv : bootBuiltins x = some (.type id)) (ha : SA X t W (a :: es) (mRs ms)) (hn : x ≠ "__name__" := by decide) (hdb : (x == ("__debug__" : Str)) = false := by decide)
    (he : starEach (a :: es) X.env = (false, eval a X.env) :: starEach es X.env := by rfl) (hpl : (backTo pos (starEach es X.env)).any (·.1) = false := by rfl) : SE X t W (.Call (.Name x p) (a :: es) [] pos) (mBl f ms) :=
  PE.imp (pe_callTy hc hg hm hv ha hn hdb he hpl) fun _ _ _ q => tI_bl h q
end
section
variable {c : Cn}
theorem Dats1.one {H0 H : Hp} {d : D} {vs : List V} (h : Dats1 c H0 H [d] vs) : ∃ v, vs = [v] ∧ Dat1 c H0 H d v := by
  obtain ⟨v, r, h1, h2, h3⟩ := h
  have h3 : r = [] := h3
  subst h3
  exact ⟨v, h1, h2⟩
theorem Dats1.two {H0 H : Hp} {d e : D} {vs : List V} (h : Dats1 c H0 H [d, e] vs) : ∃ v w, vs = [v, w] ∧ Dat1 c H0 H d v ∧ Dat1 c H0 H e w := by
  obtain ⟨v, r, h1, h2, h3⟩ := h
  obtain ⟨w, h4, h5⟩ := Dats1.one h3
  subst h4
  exact ⟨v, w, h1, h2, h5⟩
def rLenV (K : PySem.W.Frag) : List V → Hp → VK → Prop := fun xs H Q => (∃ p ys, xs = [.ref p] ∧ (SqL K H p ys ∨ SqT K H p ys) ∧ Q (.int ys.length) H) ∨ ∃ z, xs = [.str z] ∧ z.length ≤ sizeLine ∧ Q (.int z.length) H
theorem call_lenV {X : Cx} : CallR X (.builtin "len") (rLenV X.K) := CallR.or call_len_seq call_len_str
theorem b_len : CB c (rLenV c.K) lenD := by
  intro H0 H xs ds dz Q s e h o
  match ds, e with
  | [.str x], e =>
    cases e
    obtain ⟨v, rfl, rfl, hl⟩ := h.one
    exact .inr ⟨sS x, rfl, by rw [sS_len, sizeLine_lim]; exact hl, by rw [sS_len]; exact o.int⟩
  | [.lst l], e =>
    cases e
    obtain ⟨v, rfl, hl, q, vs, rfl, h2, h3⟩ := h.one
    exact .inl ⟨q, vs, rfl, .inl h2, by rw [h3.len]; exact o.int⟩
  | [.tup l], e =>
    cases e
    obtain ⟨v, rfl, hl, q, vs, rfl, h2, h3⟩ := h.one
    exact .inl ⟨q, vs, rfl, .inr h2, by rw [h3.len]; exact o.int⟩
def rInt1 : List V → Hp → VK → Prop := fun xs H Q => (∃ i, xs = [.int i] ∧ Q (.int i) H) ∨ ∃ k, xs = [.bl k] ∧ Q (.int (if k then 1 else 0)) H
theorem b_int : CB c rInt1 intD := by
  intro H0 H xs ds dz Q s e h o
  match ds, e with
  | [.int i], e =>
    cases e
    obtain ⟨v, rfl, h1⟩ := h.one
    cases h1
    exact .inl ⟨i, rfl, o.int⟩
  | [.bl b], e =>
    cases e
    obtain ⟨v, rfl, h1⟩ := h.one
    cases h1
    exact .inr ⟨b, rfl, o.int⟩
theorem b_abs : CB c (fun xs H Q => ∃ i, xs = [.int i] ∧ Q (.int (if i < 0 then -i else i)) H) absD := by
  intro H0 H xs ds dz Q s e h o
  match ds, e with
  | [.int i], e =>
    cases e
    obtain ⟨v, rfl, h1⟩ := h.one
    cases h1
    exact ⟨i, rfl, o.int⟩
theorem b_max2 : CB c (fun xs H Q => ∃ i j, xs = [.int i, .int j] ∧ Q (.int (if j > i then j else i)) H) max2D := by
  intro H0 H xs ds dz Q s e h o
  match ds, e with
  | [.int i, .int j], e =>
    cases e
    obtain ⟨v, w, rfl, h1, h2⟩ := h.two
    cases h1
    cases h2
    exact ⟨i, j, rfl, o.int⟩
theorem b_min2 : CB c (fun xs H Q => ∃ i j, xs = [.int i, .int j] ∧ Q (.int (if j < i then j else i)) H) min2D := by
  intro H0 H xs ds dz Q s e h o
  match ds, e with
  | [.int i, .int j], e =>
    cases e
    obtain ⟨v, w, rfl, h1, h2⟩ := h.two
    cases h1
    cases h2
    exact ⟨i, j, rfl, o.int⟩
theorem b_list : CBl c (fun xs H Q => ∃ p ys, xs = [.ref p] ∧ (SqL c.K H p ys ∨ SqT c.K H p ys) ∧ ∀ l, H l = none → Q (.ref l) (upd H l (.lst ys))) listL := by
  intro H0 H xs ds l Q s e h nl
  match ds, e with
  | [.lst l], e =>
    cases e
    obtain ⟨v, rfl, hl, q, vs, rfl, h2, h3⟩ := h.one
    exact ⟨q, vs, rfl, .inl h2, fun p hp => nl p vs hp hl h3⟩
  | [.tup l], e =>
    cases e
    obtain ⟨v, rfl, hl, q, vs, rfl, h2, h3⟩ := h.one
    exact ⟨q, vs, rfl, .inr h2, fun p hp => nl p vs hp hl h3⟩
end
section
variable {X : Cx} {pins : List (Addr × Obj)} {σ : St} {H : Hp} {s : Shared} {p : Addr} {xs : List V}
theorem sq_lst (I : Inv X pins σ H s) (h : SqL X.K H p xs) : ∃ (its : List Value) (n : Nat) (sl : Array (Option Value)), xs.length ≤ sizeLine ∧ Vals xs its ∧ xs.length = its.length ∧ s.heap.get? p = some ⟨.type "list", none, .seq its.toArray n, sl⟩ := by
  obtain ⟨its, r, ⟨⟨oc, od, dt, sl⟩, n, e, hc, hd, hs⟩, hz⟩ := I.list h
  simp only at hc hd hs
  subst hc hd hs
  exact ⟨its, n, sl, hz, r, r.length, e⟩
end
/-- xs + ys of lists -/
def rCatR (K : PySem.W.Frag) : R2 := fun x y H Q => ∃ l b xs zs, x = .ref l ∧ y = .ref b ∧ SqL K H l xs ∧ SqL K H b zs ∧ xs.length + zs.length ≤ sizeLine ∧ ∀ p, H p = none → Q (.ref p) (upd H p (.lst (xs ++ zs)))
theorem op_catR {X : Cx} : OpR X (binaryOp .Add) (rCatR X.K) := by
  rintro pins s σ H x y v u Q I rx ry ⟨l, b, xs, zs, e1, e2, hl, hb, few, q⟩
  subst e1 e2
  cases rx
  cases ry
  have ⟨is1, n1, sl1, _, r1, len1, at_l⟩ := sq_lst I hl
  have ⟨is2, n2, sl2, _, r2, len2, at_b⟩ := sq_lst I hb
  have both : is1.toArray ++ is2.toArray = (is1 ++ is2).toArray := List.append_toArray ..
  have size : is1.toArray.size + is2.toArray.size ≤ sizeLine := by
    rw [List.size_toArray, List.size_toArray, ← len1, ← len2]
    exact few
  have adds := list_addW l b is1.toArray is2.toArray n1 n2 none none sl1 sl2 size
  refine concat_meets ⟨_, at_l, rfl⟩ ⟨_, at_b, rfl⟩ noFill_list_add seq_list_add PySem.F.slot_list_add PySem.F.entry_list_add (PySem.F.args_list_add_2 _ _) adds ⟨at_l, at_b, ?_⟩
  rw [both]
  refine ⟨.ref _, _, I.lnew (r1.append r2) ?_, rfl, q _ I.fresh⟩
  rw [List.length_append]
  exact few
theorem v_cat {c : Cn} : LOp2 c (rCatR c.K) catL := by
  intro H0 H x y dx dy l Q s e hx hy nl
  match dx, dy, e with
  | .lst a, .lst b, e =>
    obtain ⟨h1, p1, vs, rfl, h2, h3⟩ := hx
    obtain ⟨g1, p2, ws, rfl, g2, g3⟩ := hy
    have e : (if a.length + b.length ≤ lim then some (a ++ b) else none) = some l := e
    by_cases hl : a.length + b.length ≤ lim
    · rw [if_pos hl] at e
      cases e
      refine ⟨p1, p2, vs, ws, rfl, rfl, h2, g2, by rw [h3.len, g3.len, sizeLine_lim]; exact hl, fun p hp => nl p _ hp (by simpa using hl) (Dats.app h3 g3)⟩
    · rw [if_neg hl] at e
      cases e
/-! ### a name's own list -/
section
variable {c : Cn}
theorem m_app : MOp1 c rAppend appF := by
  intro H0 H p l vs x d y l' Q s e hl hp hv hy q
  have e : (if l.length < lim then some (D.non, l ++ [x]) else none) = some (d, l') := e
  split at e
  · cases e
    rename_i h
    exact ⟨p, vs, y, rfl, rfl, hp, by rw [hv.len, sizeLine_lim]; exact h, q _ _ (by simp; omega) (Dats.app hv (Dats.one hy)) rfl⟩
  · cases e
end
end F
end

section
set_option Elab.async false
set_option linter.all false
set_option autoImplicit false
set_option maxRecDepth 100000
/-! F layer, part J: what is walked. -/
namespace F
open PySem PySem.Spec PyProof.Rows L2
/-! ### enumerate over a text -/
def IteS (z : Str) : It := ⟨fun i _ => i < z.cps.size, fun i H v H' => ∃ T c, v = .ref T ∧ H T = none ∧ H' = upd H T (.tup [.int (i : Nat), .str ⟨#[c]⟩]) ∧ z.cps[i]? = some c, fun i _ => i = z.cps.size⟩
/-- a text's iterator draws its signs -/
theorem draws_signs {P : Program} {w : World} {A : Around} (hh : A.handled = none) (z : Str) (t : Tok) (it : Addr) :
    Draws P w A it [it] z.cps.size (fun i v => ∃ c u, z.cps[i]? = some c ∧ v = .str ⟨#[c]⟩ u) (fun i h => h.IsStrIter it (strIterType z) z t i) := by
  unfold strIterType
  by_cases h : z.cps.all (· < 128) = true
  all_goals split
  all_goals first
    | exact Draws.strAscii hh it z t
    | exact Draws.strWide hh it z t
theorem turn_enumS {P : Program} {w : World} {K : PySem.W.Frag} {elts : List Expr} {kk : Nat} {tpos : Pos} (z : Str) (t : Tok) (e it : Addr) :
    Turn P w K (.Tuple elts kk tpos) (IteS z) [e, it] e (fun i h => (∃ old, IsEnum h e it ((i : Nat) : Int) old) ∧ h.IsStrIter it (strIterType z) z t i ∧ e ≠ it) where
  mem := List.mem_cons_self
  obj := by
    rintro i h ⟨⟨old, he⟩, ⟨o, ho, _, hd⟩, _⟩ b hb
    rcases List.mem_cons.mp hb with e1 | hb
    · subst e1
      exact ⟨_, he, fun v q => nomatch q⟩
    · cases List.mem_singleton.mp hb
      refine ⟨o, ho, fun v q => ?_⟩
      rw [hd] at q
      cases q
  keep := by
    rintro i h h' ⟨⟨old, he⟩, ⟨o, ho, r⟩, ne⟩ k
    exact ⟨⟨old, k e List.mem_cons_self _ he⟩, ⟨o, k it (List.mem_cons_of_mem _ List.mem_cons_self) o ho, r⟩, ne⟩
  item := by
    rintro X eP ew eK hc i pins s σ H E I hf ⟨⟨old, he⟩, hit, ne⟩ hg
    subst eP ew eK
    have lt_e := Heap.lt_size he
    have lt_it : it < s.heap.objs.size := hit.elim fun _ q => Heap.lt_size q.1
    have out : e ∉ [it] := fun q => ne (List.mem_singleton.mp q)
    refine wpAny_pyNext_enum_itemD (draws_signs (A := X.A.in1) (show X.A.in1.handled = none from I.ok.hd hc) z t it) he hit hg ne out fun u h' tk ⟨c, tu, at_i, eu⟩ ho hit' hT size keep => ?_
    subst eu
    refine ⟨_, rfl, wpAny_letOwnedTupleGo_enum (s := { s with heap := h', toks := tk + 1 }) ho fun h2 he2 sb => ?_⟩
    have pair := (sb.2 _ (Nat.ne_of_gt lt_e)).trans hT
    have fresh := I.hok.fresh (Nat.le_refl s.heap.objs.size)
    have still : ∀ b o, b ∉ [e, it] → s.heap.get? b = some o → h2.get? b = some o := fun b o nb q => by
      have n1 : b ≠ e := fun z => nb (z ▸ List.mem_cons_self)
      have n2 : b ≠ it := fun z => nb (z ▸ List.mem_cons_of_mem _ List.mem_cons_self)
      refine (sb.2 b n1).trans (keep b o n1 ?_ q)
      simpa using n2
    have J := I.turnedNew (T := s.heap.objs.size) (ob := .tup [.int (i : Nat), .str ⟨#[c]⟩]) (t' := tk + 1) still hf (Nat.le_refl _) ⟨show 2 ≤ sizeLine by decide, [.int i tk, .str ⟨#[c]⟩ tu], .cons ⟨_, rfl⟩ (.cons ⟨_, rfl⟩ .nil), ⟨_, pair, rfl, _, rfl⟩⟩
    have ⟨oi, hoi, ri⟩ := hit'
    refine ⟨.ref s.heap.objs.size, _, J, rfl, ⟨_, c, rfl, fresh, rfl, at_i⟩, ⟨⟨_, he2⟩, ⟨oi, (sb.2 it ne.symm).trans hoi, ri⟩, ne⟩, fun b hb => ?_⟩
    have lt_b : b < s.heap.objs.size := by
      rcases List.mem_cons.mp hb with z | hb
      · exact z ▸ lt_e
      · exact List.mem_singleton.mp hb ▸ lt_it
    exact (upd_ne (Nat.ne_of_lt lt_b)).trans (hf b hb).1
  done := by
    rintro X eP ew eK hc i pins s σ H E I hf ⟨⟨old, he⟩, hit, ne⟩ hg
    subst eP ew eK
    cases hg
    have ⟨a0, a1, _, a2, a3, a4⟩ := hf it (List.mem_cons_of_mem _ List.mem_cons_self)
    exact wpAny_pyNext_enum_endD (draws_signs (A := X.A.in1) (show X.A.in1.handled = none from I.ok.hd hc) z t it) he hit fun h' ext => ⟨rfl, I.turned (t' := s.toks) ext a0 a1 a2 a3 a4⟩
  self := by
    rintro A i s Q E ⟨⟨_, he⟩, _⟩ q
    exact wpAny_pyIter_enum he q
def iEnumS (ta : TA) : TI := fun σ H R => ta σ H fun vs H1 => ∃ z, vs = [.str z] ∧ R (IteS z) H1
theorem pi_enumS {X : Cx} {e : Expr} {ta : TA} {p pos tpos : Pos} {elts : List Expr} {kk : Nat} (hg : Gl X "enumerate") (hm : X.mg "enumerate" = none) (ha : PA X [e] ta) (hs : starEach [e] X.env = [(false, eval e X.env)] := by rfl) :
    PI X (.Tuple elts kk tpos) (.Call (.Name "enumerate" p) [e] [] pos) (iEnumS ta) := by
  constructor
  intro pins s σ H R I h
  refine Call_ (ld_blt I hg hm boot_enumerate (PyProof.Rows.callWith_type1 ?_ hs rfl))
  refine thn (ha.run pos pins s σ H _ I h) fun us s1 ⟨vs, H1, I1, r1, z, ez, q⟩ => ?_
  subst ez
  rcases r1 with _ | ⟨⟨t, et⟩, _ | _⟩
  subst et
  refine call_enumerate_str fun h' he hit _ keep => wpAny_pyIter_enum he ?_
  refine ⟨_, [s1.heap.objs.size + 1, s1.heap.objs.size], _, _, H1, rfl, I1.kept keep, turn_enumS z t _ s1.heap.objs.size, ⟨⟨.none, he⟩, hit, Nat.succ_ne_self _⟩, fun b hb => ?_, q⟩
  have le : s1.heap.objs.size ≤ b := by
    rcases List.mem_cons.mp hb with e | hb
    · exact e ▸ Nat.le_succ _
    · exact Nat.le_of_eq (List.mem_singleton.mp hb).symm
  exact I1.fpOk le (I1.hok.fresh le)
theorem walk_enumS {z : Str} : Walk (IteS z) z.cps.size (fun _ => True) (fun i H v H' => ∃ T c, v = .ref T ∧ H T = none ∧ H' = upd H T (.tup [.int (i : Nat), .str ⟨#[c]⟩]) ∧ z.cps[i]? = some c) :=
  ⟨fun i H hi _ => hi, fun H _ => rfl, fun i H x H' _ _ y => y⟩
/-! ### what is walked -/
theorem same_upd {H : Hp} {p : Addr} {o : HO} (h : H p = none) : Same H (upd H p o) := fun b u e => by
  by_cases z : b = p
  · rw [z, h] at e; cases e
  · rw [upd_ne z]; exact e

section
variable {X : Cx} {t : Tb} {W : WX} {a : Expr} {ma : M R} {tg : Expr} {pos p : Pos}
def ItOp (c : Cn) (u : V → Hp → (It → Hp → Prop) → Prop) (f : D → Option (List D)) : Prop := ∀ (H0 H : Hp) (x : V) (dx : D) (l : List D) (Rr : It → Hp → Prop), Same H0 H → f dx = some l → Dat c H0 dx x → (∀ J, WkD c H0 J l → Rr J H) → u x H Rr
theorem tI_it {u : V → Hp → (It → Hp → Prop) → Prop} {f : D → Option (List D)} (h : ItOp (cn X t) u f) {σ : St} {H : Hp} {Rr : It → Hp → Prop} (q : tIt t (cn X t) W (mIt f ma) σ H Rr) : tI X t W ma σ H fun x H1 => u x H1 Rr := by
  obtain ⟨e, H0, Fr, as, rp, po⟩ := q
  refine ⟨e, H0, Fr, as, rp, Po.bind (f := fun r e1 => andThen (leak r e1) fun d e2 => ofO (f d) fun l => .ok l e2) po fun ra e1 v H1 H' s rr po => ?_⟩
  obtain ⟨d, e2, H2, as, q, s2, rp, hd, po⟩ := po.leak rr
  obtain ⟨l, e3, po⟩ := po.ofO
  exact h H2 H' v d l Rr rp.sub e3 hd fun J wk => po.ret (Same.refl _) ⟨⟨as, rp⟩, wk⟩
/-- the one argument of a call -/
theorem tI_it1 {u : List V → Hp → (It → Hp → Prop) → Prop} {f : D → Option (List D)} (h : ItOp (cn X t) (fun x H Rr => u [x] H Rr) f) {σ : St} {H : Hp} {Rr : It → Hp → Prop} (q : tIt t (cn X t) W (mIt f ma) σ H Rr) :
    tG t (cn X t) W (rrDs (cn X t)) (mLks [ma]) σ H fun vs H1 => u vs H1 Rr := by
  obtain ⟨e, H0, Fr, as, rp, po⟩ := q
  refine ⟨e, H0, Fr, as, rp, ?_⟩
  have po : Po t (cn X t) W Fr σ H0 _ Rr (andThen (ma e) fun r e1 => andThen (leak r e1) fun d e2 => ofO (f d) fun l => .ok l e2) := po
  have go : Po t (cn X t) W Fr σ H0 (rrDs (cn X t) Fr σ) (fun vs H1 => u vs H1 Rr) (andThen (ma e) fun r e1 => andThen (leak r e1) fun d e2 => .ok [d] e2) := by
    cases q0 : ma e with
    | ok ra e1 =>
      rw [q0] at po
      have po : Po t (cn X t) W Fr σ H0 _ Rr (andThen (leak ra e1) fun d e2 => ofO (f d) fun l => .ok l e2) := po
      show Po t (cn X t) W Fr σ H0 _ _ (andThen (leak ra e1) fun d e2 => .ok [d] e2)
      cases q1 : leak ra e1 with
      | ok d e2 =>
        rw [q1] at po
        rintro vs H1 H' s ⟨⟨as1, rp1⟩, v, vs', rfl, hd, k2⟩
        have k2 : vs' = [] := k2
        subst k2
        obtain ⟨l, e3, po⟩ := Po.ofO po
        exact h H1 H' v d l Rr rp1.sub e3 hd fun J wk => po J H1 H' s ⟨⟨as1, rp1⟩, wk⟩
      | ex k' p e1 =>
        rw [q1] at po
        exact po
      | bad =>
        rw [q1] at po
        exact po.elim
    | ex k' p e1 =>
      rw [q0] at po
      exact po
    | bad =>
      rw [q0] at po
      exact po.elim
  exact go
theorem wk_mk {c : Cn} {H0 : Hp} {J : It} {l : List D} {n : Nat} {G : Hp → Prop} {Y : Nat → Hp → V → Hp → Prop} (w : Walk J n G Y) (hn : n = l.length) (hG : ∀ H2 H', Same H0 H2 → Same H2 H' → G H')
    (hY : ∀ i H2 H' x H'', i < l.length → Same H0 H2 → Same H2 H' → Y i H' x H'' → ∃ d, l[i]? = some d ∧ ((H'' = H' ∧ Dat c H2 d x) ∨ ∃ p o, x = .ref p ∧ H' p = none ∧ H'' = upd H' p o ∧ Dat c (upd H2 p o) d x)) : WkD c H0 J l := by
  subst hn
  exact ⟨G, Y, w, hG, hY⟩
theorem wk_of {c : Cn} {H0 : Hp} {J : It} {l : List D} {vs : List V} {n : Nat} {G : Hp → Prop} (w : Walk J n G (YAt vs)) (hn : n = l.length) (hd : Dats c H0 l vs) (hG : ∀ H2 H', Same H0 H2 → Same H2 H' → G H') : WkD c H0 J l := by
  subst hn
  refine ⟨G, _, w, hG, ?_⟩
  rintro i H2 H' x H'' hi s1 s2 ⟨rfl, hx⟩
  obtain ⟨v, g1, g2⟩ := hd.get (List.getElem?_eq_getElem hi)
  rw [hx] at g1
  cases g1
  exact ⟨l[i], List.getElem?_eq_getElem hi, .inl ⟨rfl, Dat.mono s1 _ _ g2⟩⟩
theorem it_list {c : Cn} : ItOp c (fun x H1 Rr => ∃ a, x = .ref a ∧ (∃ xs, SqL c.K H1 a xs) ∧ Rr (Itl c.K a) H1) itL := by
  intro H0 H x dx l Rr s e hd q
  match dx, e with
  | .lst l, e =>
    cases e
    obtain ⟨hl, a, vs, rfl, h2, h3⟩ := hd
    exact ⟨a, rfl, ⟨vs, SqL.same s h2⟩, q _ (wk_of walk_list h3.len h3 fun H2 H' s1 s2 => SqL.same (s1.trans s2) h2)⟩
theorem it_tup {c : Cn} : ItOp c (fun x H1 Rr => ∃ a, x = .ref a ∧ (∃ xs, SqT c.K H1 a xs) ∧ Rr (Itt c.K a) H1) itT := by
  intro H0 H x dx l Rr s e hd q
  match dx, e with
  | .tup l, e =>
    cases e
    obtain ⟨hl, a, vs, rfl, h2, h3⟩ := hd
    exact ⟨a, rfl, ⟨vs, SqT.same s h2⟩, q _ (wk_of walk_tup h3.len h3 fun H2 H' s1 s2 => SqT.same (s1.trans s2) h2)⟩
theorem sS_at {x : List Nat} {i c : Nat} (h : (sS x).cps[i]? = some c) : x[i]? = some c := by
  have : x.toArray[i]? = some c := h
  simpa using this
theorem it_str {c : Cn} : ItOp c (fun v H1 Rr => ∃ x, v = .str x ∧ Rr (Its x) H1) itS := by
  intro H0 H x dx l Rr s e hd q
  match dx, e with
  | .str z, e =>
    cases e
    obtain ⟨rfl, hl⟩ := hd
    refine ⟨sS z, rfl, q _ (wk_mk (walk_str (z := sS z)) (by simp [sS]) (fun _ _ _ _ => trivial) ?_)⟩
    · rintro i H2 H' x H'' hi s1 s2 ⟨rfl, cc, hc, rfl⟩
      have hc := sS_at hc
      refine ⟨.str [cc], by simp [hc], .inl ⟨rfl, rfl, by show 1 ≤ lim; decide⟩⟩
theorem enumF_at : ∀ (n : Nat) (l : List D) (i : Nat), (enumF n l)[i]? = l[i]?.map fun d => .tup [.int ((n + i : Nat) : Int), d]
  | n, [], i => by simp [enumF]
  | n, d :: l, 0 => by simp [enumF]
  | n, d :: l, i + 1 => by
    simp only [enumF, List.getElem?_cons_succ]
    rw [enumF_at (n + 1) l i]
    have : n + 1 + i = n + (i + 1) := by omega
    rw [this]
theorem enumF_len : ∀ (n : Nat) (l : List D), (enumF n l).length = l.length
  | _, [] => rfl
  | n, d :: l => by simp [enumF, enumF_len (n + 1) l]
theorem dat_pair {c : Cn} {H : Hp} {p : Addr} {a b : D} {x y : V} (s : ∀ d v, Dat c H d v → Dat c (upd H p (.tup [x, y])) d v) (ha : Dat c H a x) (hb : Dat c H b y) : Dat c (upd H p (.tup [x, y])) (.tup [a, b]) (.ref p) :=
  ⟨by show 2 ≤ lim; decide, p, [x, y], rfl, SqT.of upd_same, x, [y], rfl, s _ _ ha, y, [], rfl, s _ _ hb, rfl⟩
theorem it_enumS {c : Cn} : ItOp c (fun v H1 Rr => ∃ z, [v] = [.str z] ∧ Rr (IteS z) H1) itES := by
  intro H0 H x dx l Rr s e hd q
  match dx, e with
  | .str z, e =>
    cases e
    obtain ⟨rfl, hl⟩ := hd
    refine ⟨sS z, rfl, q _ (wk_mk (walk_enumS (z := sS z)) (by simp [sS, enumF_len]) (fun _ _ _ _ => trivial) ?_)⟩
    · rintro i H2 H' x H'' hi s1 s2 ⟨T, cc, rfl, hT, rfl, hc⟩
      have hc := sS_at hc
      have hT2 : H2 T = none := by
        cases q : H2 T with
        | none => rfl
        | some o => rw [s2 _ _ q] at hT; cases hT
      refine ⟨.tup [.int (i : Nat), .str [cc]], by rw [enumF_at]; simp [hc], .inr ⟨T, _, rfl, hT, rfl, ?_⟩⟩
      exact dat_pair (fun d v h => Dat.mono (same_upd hT2) _ _ h) rfl ⟨rfl, by show 1 ≤ lim; decide⟩
theorem it_enumL {c : Cn} : ItOp c (fun v H1 Rr => ∃ a xs, [v] = [.ref a] ∧ SqL c.K H1 a xs ∧ Rr (Ite c.K a) H1) itEL := by
  intro H0 H x dx l Rr s e hd q
  match dx, e with
  | .lst l, e =>
    cases e
    obtain ⟨hl, a, vs, rfl, h2, h3⟩ := hd
    refine ⟨a, vs, rfl, SqL.same s h2, q _ (wk_mk (walk_enum (K := c.K) (a := a) (xs := vs)) (by rw [enumF_len, h3.len]) (fun H2 H' s1 s2 => SqL.same (s1.trans s2) h2) ?_)⟩
    · rintro i H2 H' x H'' hi s1 s2 ⟨T, x1, y1, rfl, hT, rfl, e1, e2⟩
      cases e1
      have e2 : vs[i]? = some y1 := e2
      rw [enumF_len] at hi
      obtain ⟨v, g1, g2⟩ := h3.get (List.getElem?_eq_getElem hi)
      rw [e2] at g1
      cases g1
      have hT2 : H2 T = none := by
        cases q : H2 T with
        | none => rfl
        | some o => rw [s2 _ _ q] at hT; cases hT
      refine ⟨.tup [.int (i : Nat), l[i]], by rw [enumF_at]; simp [List.getElem?_eq_getElem hi], .inr ⟨T, _, rfl, hT, rfl, ?_⟩⟩
      exact dat_pair (fun d v h => Dat.mono (same_upd hT2) _ _ h) rfl (Dat.mono s1 _ _ g2)
theorem rngF_len : ∀ (lo : Int) (n : Nat), (rngF lo n).length = n
  | _, 0 => rfl
  | lo, n + 1 => by simp [rngF, rngF_len (lo + 1) n]
theorem rngF_at : ∀ (lo : Int) (n i : Nat), i < n → (rngF lo n)[i]? = some (.int (lo + i))
  | _, 0, _, h => absurd h (Nat.not_lt_zero _)
  | lo, n + 1, 0, _ => by simp [rngF]
  | lo, n + 1, i + 1, h => by
    simp only [rngF, List.getElem?_cons_succ]
    rw [rngF_at (lo + 1) n i (Nat.lt_of_succ_lt_succ h)]
    have : lo + 1 + (i : Int) = lo + ((i + 1 : Nat) : Int) := by omega
    rw [this]
theorem wk_rng {c : Cn} {H0 : Hp} {lo : Int} {n : Nat} : WkD c H0 (Itr lo n) (rngF lo n) := by
  refine wk_mk (walk_range (lo := lo) (n := n)) (rngF_len _ _).symm (fun _ _ _ _ => trivial) ?_
  · rintro i H2 H' x H'' hi s1 s2 ⟨rfl, rfl⟩
    rw [rngF_len] at hi
    exact ⟨_, rngF_at _ _ _ hi, .inl ⟨rfl, rfl⟩⟩
theorem it_rng1 {c : Cn} : ItOp c (fun v H1 Rr => ∃ j : Int, [v] = [.int j] ∧ -(2 ^ 62) ≤ j ∧ j < 2 ^ 62 ∧ Rr (Itr 0 j.toNat) H1) itR1 := by
  intro H0 H x dx l Rr s e hd q
  match dx, e with
  | .int j, e =>
    have e : (if -4611686018427387904 ≤ j ∧ j < 4611686018427387904 then some (rngF 0 j.toNat) else none) = some l := e
    by_cases h : -4611686018427387904 ≤ j ∧ j < 4611686018427387904
    · rw [if_pos h] at e
      cases e
      cases hd
      exact ⟨j, rfl, by omega, by omega, q _ wk_rng⟩
    · rw [if_neg h] at e
      cases e
theorem si_list (h : SE X t W a ma) : SI X t W tg a (mIt itL ma) := PI.imp (pi_list h) fun σ H Q q => tI_it it_list q
theorem si_tup (h : SE X t W a ma) : SI X t W tg a (mIt itT ma) := PI.imp (pi_tup h) fun σ H Q q => tI_it it_tup q
theorem si_str (h : SE X t W a ma) : SI X t W tg a (mIt itS ma) := PI.imp (pi_str h) fun σ H Q q => tI_it it_str q
variable {elts : List Expr} {kk : Nat} {tpos : Pos}
theorem si_enumS (hg : Gl X "enumerate") (hm : X.mg "enumerate" = none) (h : SE X t W a ma) (hs : starEach [a] X.env = [(false, eval a X.env)] := by rfl) : SI X t W (.Tuple elts kk tpos) (.Call (.Name "enumerate" p) [a] [] pos) (mIt itES ma) :=
  PI.imp (pi_enumS hg hm (sd_cons h sd_nil hs) hs) fun σ H Q q => tI_it1 (u := fun vs H1 Rr => ∃ z, vs = [.str z] ∧ Rr (IteS z) H1) it_enumS q
theorem si_enumL (hg : Gl X "enumerate") (hm : X.mg "enumerate" = none) (h : SE X t W a ma) (hs : starEach [a] X.env = [(false, eval a X.env)] := by rfl) : SI X t W (.Tuple elts kk tpos) (.Call (.Name "enumerate" p) [a] [] pos) (mIt itEL ma) :=
  PI.imp (pi_enum hg hm (sd_cons h sd_nil hs) hs) fun σ H Q q => tI_it1 (u := fun vs H1 Rr => ∃ b xs, vs = [.ref b] ∧ SqL X.K H1 b xs ∧ Rr (Ite X.K b) H1) it_enumL q
theorem si_rng1 (hg : Gl X "range") (hm : X.mg "range" = none) (h : SE X t W a ma) (hs : starEach [a] X.env = [(false, eval a X.env)] := by rfl) : SI X t W tg (.Call (.Name "range" p) [a] [] pos) (mIt itR1 ma) :=
  PI.imp (pi_range1 hg hm (sd_cons h sd_nil hs) hs) fun σ H Q q => tI_it1 (u := fun vs H1 Rr => ∃ j : Int, vs = [.int j] ∧ -(2 ^ 62) ≤ j ∧ j < 2 ^ 62 ∧ Rr (Itr 0 j.toNat) H1) it_rng1 q
end
end F
end

section
set_option Elab.async false
set_option linter.all false
set_option autoImplicit false
set_option maxRecDepth 100000
/-! F layer, part K: methods of texts, slices, dicts, isinstance. -/
namespace F
open PySem PySem.Spec PyProof.Rows L2
section
variable {X : Cx} {t : Tb} {W : WX} {o a b : Expr} {mo ma mb : M R} {pos p : Pos}
/-! ### a method of a text -/
def SMt1 (c : Cn) (r : V → List V → Hp → VK → Prop) (f : List Nat → D → Option D) : Prop := ∀ (H0 H : Hp) (x : List Nat) (y : V) (dy dz : D) (Q : VK), Same H0 H → x.length ≤ lim → f x dy = some dz → Dat1 c H0 H dy y → Out c H0 H dz Q → r (.str (sS x)) [y] H Q
theorem se_sm1 {id : String} {name : Str} {apos : Pos} {r : V → List V → Hp → VK → Prop} {f : List Nat → D → Option D} (slot : Slot "str" name id) (ty : typeOf (.builtin id) = pure (.type "method_descriptor")) (rule : MtR X id r) (h : SMt1 (cn X t) r f) (ho : SE X t W o mo) (ha : SE X t W a ma)
    (hs : starEach [a] X.env = [(false, eval a X.env)] := by rfl) (hbase : attributeBase o name X.env (eval o X.env) = eval o X.env := by rfl) (hline : (apos.endLine == pos.line) = true := by rfl) :
    SE X t W (.Call (.Attribute o name apos) [a] [] pos) (mSm1 f mo ma) := by
  refine PE.imp (pe_m1 slot ty rule ho ha hs hbase hline) fun σ H Q ⟨e, H0, Fr, as, rp, po⟩ => ?_
  refine ⟨e, H0, Fr, as, rp, po.bind fun ra e1 v H1 H' s rr po => ?_⟩
  match q : peek ra e1, po with
  | some (.str x), po =>
    obtain ⟨H2, as, s2, rp, hd⟩ := RpR.peek rr q
    obtain ⟨rfl, hl⟩ := hd
    refine ⟨⟨_, rfl⟩, e1, H2, Fr, as, rp, (po.mono s2).bind fun rb e2 w H3 H'' s3 rr2 po => ?_⟩
    obtain ⟨dy, q2, po⟩ := po.ofO
    obtain ⟨dz, q3, po⟩ := po.ofO
    obtain ⟨H4, as, s4, rp, hd⟩ := RpR.peek rr2 q2
    exact h H4 H'' x w dy dz Q rp.sub hl q3 hd ((po.mono s4).out rp)
theorem joinN_eq (s : List Nat) : ∀ l : List (List Nat), joinN s l = TL.joinL s l
  | [] => rfl
  | [_] => rfl
  | p :: q :: r => by
    show p ++ (s ++ joinN s (q :: r)) = p ++ (s ++ TL.joinL s (q :: r))
    rw [joinN_eq s (q :: r)]
theorem strsOf_vals {c : Cn} {H : Hp} : ∀ {l : List D} {xs : List (List Nat)} {vs : List V}, strsOf l = some xs → Dats c H l vs → vs = (xs.map sS).map V.str
  | [], xs, vs, e, h => by
    cases e
    exact h
  | d :: l, xs, vs, e, h => by
    match d, e with
    | .str x, e =>
      have e : (strsOf l).map (x :: ·) = some xs := e
      obtain ⟨ys, e1, rfl⟩ := Option.map_eq_some_iff.mp e
      obtain ⟨v, r, rfl, ⟨rfl, _⟩, h3⟩ := h
      rw [strsOf_vals e1 h3]
      rfl
theorem lens_sS : ∀ xs : List (List Nat), (xs.map sS).map (·.length) = xs.map List.length
  | [] => rfl
  | x :: xs => by
    rw [List.map_cons, List.map_cons, List.map_cons, lens_sS xs]
    rfl
theorem join_sS (s : List Nat) (xs : List (List Nat)) : Txt.join (sS s) (xs.map sS) = sS (joinN s xs) := by
  rw [joinN_eq]
  exact SX.join_S s xs
theorem joinN_len (s : List Nat) : ∀ xs : List (List Nat), (joinN s xs).length ≤ (xs.map List.length).sum + xs.length * s.length
  | [] => Nat.zero_le _
  | [p] => by simp [joinN]
  | p :: q :: r => by
    have := joinN_len s (q :: r)
    simp only [joinN, List.length_append, List.map_cons, List.sum_cons, List.length_cons] at this ⊢
    have e : (r.length + 1 + 1) * s.length = (r.length + 1) * s.length + s.length := by rw [Nat.add_mul, Nat.one_mul]
    omega
theorem sm_join {c : Cn} : SMt1 c (fun x xs H Q => ∃ a p, ∃ ys : List Str, x = .str a ∧ xs = [.ref p] ∧ (SqL c.K H p (ys.map V.str) ∨ SqT c.K H p (ys.map V.str)) ∧ (ys.map (·.length)).sum + ys.length * a.length ≤ 16777216 ∧ Q (.str (Txt.join a ys)) H)
    (fun x y => joinD (.str x) y) := by
  intro H0 H x y dy dz Q s hl e hd o
  match dy, e with
  | .lst l, e =>
    obtain ⟨xs, e1, e⟩ := Option.bind_eq_some_iff.mp (show ((strsOf l).bind fun xs => if (xs.map List.length).sum + xs.length * x.length ≤ lim then some (D.str (joinN x xs)) else none) = some dz from e)
    by_cases h : (xs.map List.length).sum + xs.length * x.length ≤ lim
    · rw [if_pos h] at e
      cases e
      obtain ⟨_, q, vs, rfl, h2, h3⟩ := hd
      have ev := strsOf_vals e1 h3
      subst ev
      refine ⟨sS x, q, xs.map sS, rfl, rfl, .inl h2, ?_, ?_⟩
      · rw [lens_sS, List.length_map, sS_len]; exact h
      · rw [join_sS]
        exact o.str (Nat.le_trans (joinN_len x xs) h)
    · rw [if_neg h] at e
      cases e
  | .tup l, e =>
    obtain ⟨xs, e1, e⟩ := Option.bind_eq_some_iff.mp (show ((strsOf l).bind fun xs => if (xs.map List.length).sum + xs.length * x.length ≤ lim then some (D.str (joinN x xs)) else none) = some dz from e)
    by_cases h : (xs.map List.length).sum + xs.length * x.length ≤ lim
    · rw [if_pos h] at e
      cases e
      obtain ⟨_, q, vs, rfl, h2, h3⟩ := hd
      have ev := strsOf_vals e1 h3
      subst ev
      refine ⟨sS x, q, xs.map sS, rfl, rfl, .inr h2, ?_, ?_⟩
      · rw [lens_sS, List.length_map, sS_len]; exact h
      · rw [join_sS]
        exact o.str (Nat.le_trans (joinN_len x xs) h)
    · rw [if_neg h] at e
      cases e
/-! ### slices -/
def rrPt (c : Cn) : Hp → St → Hp → Hp → Env → Option Int → Option Int → Prop := fun Fr σ H1 H' e b a => b = a ∧ ∃ as, Rp c H1 Fr H' σ e as
abbrev SPt (X : Cx) (t : Tb) (W : WX) (e : Option Expr) (m : Option (M R)) : Prop := PO X e (tG t (cn X t) W (rrPt (cn X t)) (mPt m))
theorem PO.imp {X : Cx} {e : Option Expr} {u u' : TO} (h : PO X e u) (k : ∀ σ H Q, u' σ H Q → u σ H Q) : PO X e u' := ⟨fun pins s σ H Q I q => h.run pins s σ H Q I (k _ _ _ q)⟩
theorem spt_none : SPt X t W none none := PO.imp po_none fun σ H Q ⟨e, H0, Fr, as, rp, po⟩ => po none H0 H (Same.refl _) ⟨rfl, as, rp⟩
theorem spt_some (h : SE X t W a ma) : SPt X t W (some a) (some ma) := by
  refine PO.imp (po_some h) fun σ H Q ⟨e, H0, Fr, as, rp, po⟩ => ?_
  refine ⟨e, H0, Fr, as, rp, Po.bind (f := fun r e1 => match peek r e1 with
    | some (.int i) => .ok (some i) e1
    | _ => .bad) po fun ra e1 v H1 H' s rr po => ?_⟩
  match q : peek ra e1, po with
  | some (.int i), po =>
    obtain ⟨H2, as, s2, rp, hd⟩ := RpR.peek rr q
    exact ⟨i, hd, Po.mono s2 po (some i) H2 H' (Same.refl _) ⟨rfl, as, rp⟩⟩
def VSl (c : Cn) (r : V → Option Int → Option Int → Hp → VK → Prop) (f : D → Option Int → Option Int → Option D) : Prop := ∀ (H0 H : Hp) (x : V) (dx dz : D) (lo hi : Option Int) (Q : VK), Same H0 H → f dx lo hi = some dz → Dat1 c H0 H dx x → Out c H0 H dz Q → r x lo hi H Q
def LSl (c : Cn) (r : V → Option Int → Option Int → Hp → VK → Prop) (f : D → Option Int → Option Int → Option (List D)) : Prop := ∀ (H0 H : Hp) (x : V) (dx : D) (l : List D) (lo hi : Option Int) (Q : VK), Same H0 H → f dx lo hi = some l → Dat1 c H0 H dx x → NewL c H0 H l Q → r x lo hi H Q
section
variable {lo hi : Option Expr} {ml mh : Option (M R)} {p2 : Pos} {r : V → Option Int → Option Int → Hp → VK → Prop}
theorem se_sl {f : D → Option Int → Option Int → Option D} (hr : SlR X r) (h : VSl (cn X t) r f) (ha : SE X t W a ma) (hl : SPt X t W lo ml) (hh : SPt X t W hi mh) : SE X t W (.Subscript a (.Slice lo hi none p2) pos) (mSl f ma ml mh) := by
  refine PE.imp (pe_slice hr ha hl hh) fun σ H Q ⟨e, H0, Fr, as, rp, po⟩ => ?_
  refine ⟨e, H0, Fr, as, rp, po.bind fun ra e1 v H1 H' s rr po => ?_⟩
  obtain ⟨H2, as, s2, rp, kp⟩ := RpR.keep rr
  refine ⟨e1, H2, Fr, as, rp, (po.mono s2).bind fun l e2 l' H3 H'' s3 ⟨e4, as, rp⟩ po => ?_⟩
  subst e4
  refine ⟨e2, H3, Fr, as, rp, po.bind fun h' e3 h2 H4 H5 s4 ⟨e4, as, rp⟩ po => ?_⟩
  subst e4
  obtain ⟨dx, q1, po⟩ := po.ofO
  obtain ⟨dz, q2, po⟩ := po.ofO
  exact h H4 H5 v dx dz _ _ Q rp.sub q2 ((kp.mono (s3.trans s4)).peek rp q1) (po.out rp)
theorem se_slL {f : D → Option Int → Option Int → Option (List D)} (hr : SlR X r) (h : LSl (cn X t) r f) (ha : SE X t W a ma) (hl : SPt X t W lo ml) (hh : SPt X t W hi mh) : SE X t W (.Subscript a (.Slice lo hi none p2) pos) (mSlL f ma ml mh) := by
  refine PE.imp (pe_slice hr ha hl hh) fun σ H Q ⟨e, H0, Fr, as, rp, po⟩ => ?_
  refine ⟨e, H0, Fr, as, rp, po.bind fun ra e1 v H1 H' s rr po => ?_⟩
  obtain ⟨H2, as, s2, rp, kp⟩ := RpR.keep rr
  refine ⟨e1, H2, Fr, as, rp, (po.mono s2).bind fun l e2 l' H3 H'' s3 ⟨e4, as, rp⟩ po => ?_⟩
  subst e4
  refine ⟨e2, H3, Fr, as, rp, po.bind fun h' e3 h2 H4 H5 s4 ⟨e4, as, rp⟩ po => ?_⟩
  subst e4
  obtain ⟨dx, q1, po⟩ := po.ofO
  obtain ⟨dz, q2, po⟩ := po.ofO
  exact h H4 H5 v dx dz _ _ Q rp.sub q2 ((kp.mono (s3.trans s4)).peek rp q1) (po.newL rp)
end
theorem cut_len {α : Type} (l : List α) (lo hi : Option Int) : (cut l lo hi).length ≤ l.length := by
  unfold cut
  rw [List.length_take, List.length_drop]
  omega
theorem sl_S {c : Cn} : VSl c rSlS slS := by
  intro H0 H x dx dz lo hi Q s e hd o
  match dx, e with
  | .str z, e =>
    cases e
    obtain ⟨rfl, hl⟩ := hd
    refine ⟨sS z, rfl, by rw [sS_len, sizeLine_lim]; exact hl, ?_⟩
    exact o.str (Nat.le_trans (cut_len z lo hi) hl)
theorem Dats.cut {c : Cn} {H : Hp} {l : List D} {vs : List V} (h : Dats c H l vs) (lo hi : Option Int) : Dats c H (cut l lo hi) (cutV vs lo hi) := by
  have := Dats.take (HT.sIx vs.length vs.length hi - HT.sIx vs.length 0 lo) (Dats.drop (HT.sIx vs.length 0 lo) h)
  unfold cutV
  rw [h.len] at this ⊢
  exact this
theorem sl_L {c : Cn} : LSl c (rSlL c.K) slL := by
  intro H0 H x dx l lo hi Q s e hd nl
  match dx, e with
  | .lst m, e =>
    cases e
    obtain ⟨hl, a, vs, rfl, h2, h3⟩ := hd
    exact ⟨a, vs, rfl, h2, fun p hp => nl p _ hp (Nat.le_trans (cut_len m lo hi) hl) (h3.cut lo hi)⟩
end
end F
end

section
set_option Elab.async false
set_option linter.all false
set_option autoImplicit false
set_option maxRecDepth 100000
/-! F layer, part L: dicts, isinstance, match, sorted. -/
namespace F
open PySem PySem.Spec PyProof.Rows L2
section
variable {c : Cn} {H0 Fr H : Hp} {σ : St} {e : Env} {as : Nat → List Addr}
theorem Rp.own1 {p : Addr} {y x : HO} {o : O} (r : Rp c H0 (upd Fr p y) H σ e as) (hF : Fr p = none) (h : OwnR c H0 (upd H p x) o (.ref p) [p]) : Rp1 c H0 Fr (upd H p x) σ e (.ref p) o := by
  refine ⟨[p], as, h, by simp, fun a ha => ?_, ?_⟩
  · rw [List.mem_singleton.mp ha]
    exact ⟨(r.fr p y upd_same).2, hF⟩
  · have e1 : addF Fr (upd H p x) [p] = upd (upd Fr p y) p x := by
      funext b
      by_cases z : b = p
      · subst z
        rw [addF_in (List.mem_singleton_self b), upd_same, upd_same]
      · rw [addF_out (by simpa using z), upd_ne z, upd_ne z]
    rw [e1]
    exact r.frUpd upd_same
end
section
variable {X : Cx} {t : Tb} {W : WX} {o a b : Expr} {mo ma mb : M R} {pos p : Pos}
/-! ### {k: v, ..} -/
def rrKv (c : Cn) : Hp → St → Hp → Hp → Env → List (V × V) → List (Ky × D) → Prop := fun Fr σ H1 H' e ps l => (∃ as, Rp c H1 Fr H' σ e as) ∧ ∃ kvs : List (Key × V), ps = kvs.map (fun kv => (kV kv.1, kv.2)) ∧ DatK c H1 l kvs
def SDc (X : Cx) (t : Tb) (W : WX) (pos : Pos) (ks : List (Option Expr)) (vs : List Expr) (kms : List (Ky × M R)) : Prop := ∃ trs, PPs X pos ks vs trs ∧ ∀ σ H Q, tG t (cn X t) W (rrKv (cn X t)) (mDvs kms) σ H Q → tPairs trs σ H Q
theorem sdc_nil : SDc X t W pos [] [] [] := ⟨[], pps_nil, fun σ H Q ⟨e, H0, Fr, as, rp, po⟩ => po [] H0 H (Same.refl _) ⟨⟨as, rp⟩, [], rfl, rfl⟩⟩
theorem sdc_cons {ke : Expr} {k : Ky} {ks : List (Option Expr)} {vs : List Expr} {kms : List (Ky × M R)} (hk : PE X ke (tC (kV (kyK k)))) (ha : SE X t W a ma) (hr : SDc X t W pos ks vs kms) : SDc X t W pos (some ke :: ks) (a :: vs) ((k, ma) :: kms) := by
  obtain ⟨trs, h1, h2⟩ := hr
  refine ⟨_, pps_cons hk ha h1, fun σ H Q ⟨e, H0, Fr, as, rp, po⟩ => ?_⟩
  refine ⟨e, H0, Fr, as, rp, Po.bind (f := fun r e1 => andThen (leak r e1) fun d e2 => andThen (mDvs kms e2) fun ds e3 => .ok ((k, d) :: ds) e3) po fun ra e1 v H1 H' s rr po => ?_⟩
  obtain ⟨d, e2, H2, as, q, s2, rp, hd, po⟩ := po.leak rr
  refine h2 _ _ _ ⟨e2, H2, Fr, as, rp, po.bind fun ds e3 ps H3 H'' s3 ⟨rp3, kvs, e4, ks⟩ po => ?_⟩
  subst e4
  exact po.ret (Same.refl _) ⟨rp3, (kyK k, v) :: kvs, rfl, v, kvs, rfl, Dat.mono s3 _ _ hd, ks⟩
theorem kyK_inj {k q : Ky} (h : kyK k = kyK q) : k = q := by
  cases k with
  | i m =>
    cases q with
    | i n => cases h; rfl
    | s y => cases h
  | s x =>
    cases q with
    | i n => cases h
    | s y =>
      have h1 : sS x = sS y := Sum.inr.inj h
      rw [SX.S_inj h1]
theorem DatK.keys {c : Cn} {H : Hp} : ∀ {l : List (Ky × D)} {kvs : List (Key × V)}, DatK c H l kvs → kvs.map (·.1) = (l.map (·.1)).map kyK
  | [], _, h => by
    have h : _ = [] := h
    subst h
    rfl
  | (k, d) :: r, _, ⟨v, s, h1, h2, h3⟩ => by
    subst h1
    simp only [List.map_cons]
    rw [DatK.keys h3]
theorem merge_nodup : ∀ (kvs acc : List (Key × V)), (acc ++ kvs).map (·.1) |>.Nodup → mergeK acc kvs = acc ++ kvs
  | [], acc, _ => by simp [mergeK]
  | kv :: kvs, acc, h => by
    have hno : (acc.any fun p => decide (p.1 = kv.1)) = false := by
      rw [List.any_eq_false]
      intro p hp
      rw [decide_eq_true_eq]
      intro e
      rw [List.map_append, List.map_cons, List.nodup_append] at h
      exact h.2.2 _ (List.mem_map_of_mem hp) _ (List.mem_cons_self ..) e
    have e1 : putK acc kv.1 kv.2 = acc ++ [kv] := by
      unfold putK
      rw [hno]
      rfl
    show mergeK (putK acc kv.1 kv.2) kvs = _
    rw [e1, merge_nodup kvs (acc ++ [kv]) (by rw [List.append_assoc]; exact h), List.append_assoc]
    rfl
theorem mDvs_keys : ∀ {kms : List (Ky × M R)} {e e' : Env} {l : List (Ky × D)}, mDvs kms e = .ok l e' → l.map (·.1) = kms.map (·.1)
  | [], _, _, _, h => by
    cases h
    rfl
  | (k, m) :: kms, e, e', l, h => by
    have h : (andThen (m e) fun r e1 => andThen (leak r e1) fun d e2 => andThen (mDvs kms e2) fun ds e3 => .ok ((k, d) :: ds) e3) = .ok l e' := h
    cases q : m e with
    | ok r e1 =>
      rw [q] at h
      have h : (andThen (leak r e1) fun d e2 => andThen (mDvs kms e2) fun ds e3 => .ok ((k, d) :: ds) e3) = .ok l e' := h
      cases q2 : leak r e1 with
      | ok d e2 =>
        rw [q2] at h
        have h : (andThen (mDvs kms e2) fun ds e3 => .ok ((k, d) :: ds) e3) = .ok l e' := h
        cases q3 : mDvs kms e2 with
        | ok ds e3 =>
          rw [q3] at h
          cases h
          simp only [List.map_cons]
          rw [mDvs_keys q3]
        | ex => rw [q3] at h; cases h
        | bad => rw [q3] at h; cases h
      | ex => rw [q2] at h; cases h
      | bad => rw [q2] at h; cases h
    | ex => rw [q] at h; cases h
    | bad => rw [q] at h; cases h
theorem se_dct {ks : List (Option Expr)} {vs : List Expr} {kms : List (Ky × M R)} (h : SDc X t W pos ks vs kms) (hall : ks.all (·.isSome) = true := by rfl) (hl : ks.length = vs.length := by rfl) (h0 : ks ≠ [] := by exact List.cons_ne_nil _ _) (h15 : ks.length ≤ 15 := by decide)
    (hnd : (kms.map (·.1)).Nodup := by decide) (hlen : kms.length ≤ 15 := by decide) : SE X t W (.Dict ks vs pos) (mDct kms) := by
  obtain ⟨trs, h1, h2⟩ := h
  refine PE.imp (pe_disp h1 hall hl h0 h15) fun σ H Q ⟨e, H0, Fr, as, rp, po⟩ p hp => h2 _ _ _ ?_
  have hF : Fr p = none := by
    cases q : Fr p with
    | none => rfl
    | some y => rw [(rp.fr p y q).1] at hp; cases hp
  have po : Po t (cn X t) W Fr σ H0 (rrR (cn X t) Fr σ) Q (andThen (mDvs kms e) fun l e1 => .ok (.ow (.fd l)) e1) := po
  cases q0 : mDvs kms e with
  | ok l e1 =>
    rw [q0] at po
    refine ⟨e, H0, upd Fr p (.dK []), as, rp.frNew hp, ?_⟩
    rw [q0]
    rintro ps H1 H' s ⟨⟨as1, rp1⟩, kvs, rfl, dk⟩
    have hk := mDvs_keys q0
    have hkl : kvs.length = kms.length := by
      have := congrArg List.length (dk.keys.trans (congrArg (List.map kyK) hk))
      simpa using this
    have hnd2 : (kvs.map (·.1)).Nodup := by
      rw [dk.keys, hk]
      exact List.Pairwise.map _ (fun a b h z => h (kyK_inj z)) hnd
    have hll : l.length ≤ lim := by
      have := congrArg List.length hk
      simp only [List.length_map] at this
      rw [this]
      exact Nat.le_trans hlen (by decide)
    refine ⟨(rp1.fr p _ upd_same).1, kvs, rfl, by rw [hkl]; exact hlen, ?_⟩
    have em : mergeK [] kvs = kvs := merge_nodup kvs [] hnd2
    rw [em]
    refine po (.ref p) H1 _ s (rp1.own1 hF ⟨hll, p, kvs, rfl, rfl, upd_same, dk⟩)
  | ex k' d e1 =>
    rw [q0] at po
    refine ⟨e, H0, upd Fr p (.dK []), as, rp.frNew hp, ?_⟩
    rw [q0]
    exact fun H2 H' as cls dx s rp xa => po H2 H' as cls dx s (rp.less fun b o hb => by
      by_cases z : b = p
      · rw [z, hF] at hb; cases hb
      · rw [upd_ne z]; exact hb) xa
  | bad =>
    rw [q0] at po
    exact po.elim
/-! ### d[k] -/
theorem lookK_val {c : Cn} {H : Hp} {q : Ky} {d : D} : ∀ {l : List (Ky × D)} {kvs : List (Key × V)}, DatK c H l kvs → lookK l q = some d → ∃ v, valV kvs (kyK q) = some v ∧ Dat c H d v
  | [], _, _, e => by cases e
  | (k, d') :: r, _, ⟨v, s, h1, h2, h3⟩, e => by
    subst h1
    have e : (if q = k then some d' else lookK r q) = some d := e
    by_cases z : q = k
    · rw [if_pos z] at e
      cases e
      exact ⟨v, valV_pos (by rw [z]), h2⟩
    · rw [if_neg z] at e
      obtain ⟨w, h4, h5⟩ := lookK_val h3 e
      exact ⟨w, (valV_neg fun y => z (kyK_inj y).symm).trans h4, h5⟩
theorem keyD_kV {c : Cn} {H0 H : Hp} {d : D} {q : Ky} {v : V} (e : keyD d = some q) (h : Dat1 c H0 H d v) : v = kV (kyK q) := by
  cases d with
  | int i =>
    cases e
    exact h
  | str x =>
    cases e
    exact h.1
  | _ => cases e
/-! ### a written table of texts -/
/-! ### isinstance with a built-in class -/
def tyN : Ty → String
  | .str => "str"
  | .int => "int"
  | .bool => "bool"
  | .list => "list"
  | .tuple => "tuple"
  | .dict => "dict"
theorem sqT_ty {K : PySem.W.Frag} {H : Hp} {a : Addr} {vs : List V} (h : SqT K H a vs) : TyX K H (.ref a) (.type "tuple") := by
  rcases h with (h | ⟨o, h⟩) | ⟨o, its, n, h1, h2, _⟩
  · exact .base (.tup h)
  · exact .fTuple h
  · exact .kTuple h1 h2
theorem rd_ty {K : PySem.W.Frag} {H : Hp} {a : Addr} {vs : List V} (h : SqL K H a vs) : TyX K H (.ref a) (.type "list") := by
  rcases h with (h | ⟨o, h⟩) | ⟨o, its, n, h1, h2, _⟩
  · exact .base (.lst h)
  · exact .base (.frz h)
  · exact .kList h1 h2
def dTy : D → Option String
  | .non => some "NoneType"
  | .bl _ => some "bool"
  | .int _ => some "int"
  | .str _ => some "str"
  | .tup _ => some "tuple"
  | .lst _ => some "list"
  | .dct _ => some "dict"
  | .obj _ _ => none
  | .ex _ _ => none
theorem dTy_ty {c : Cn} {H0 H : Hp} {d : D} {v : V} {n : String} (e : dTy d = some n) (h : Dat1 c H0 H d v) : TyX c.K H v (.type n) := by
  cases d with
  | non => cases e; cases h; exact .base .non
  | bl b => cases e; cases h; exact .base (.bl b)
  | int i => cases e; cases h; exact .base (.int i)
  | str x => cases e; obtain ⟨rfl, _⟩ := h; exact .base (.str _)
  | tup l => cases e; obtain ⟨_, a, vs, rfl, h, _⟩ := h; exact sqT_ty h
  | lst l => cases e; obtain ⟨_, a, vs, rfl, h, _⟩ := h; exact rd_ty h
  | dct l =>
    cases e
    obtain ⟨_, a, vs, rfl, h, _⟩ := h
    rcases h with h | ⟨o, h⟩
    · exact .base (.dK h)
    · exact .fDict h
  | obj k l => cases e
  | ex k d => cases e
theorem kit_all : (["NoneType", "bool", "int", "str", "tuple", "list", "dict"].all fun a => ["str", "int", "bool", "list", "tuple", "dict"].all fun b =>
    kitB a b == some (a == b || (a == "bool" && b == "int"))) = true := by decide +kernel
theorem kit_is (ty : Ty) (d : D) {b : Bool} (e : isTy ty d = some b) : ∃ n, dTy d = some n ∧ kitB n (tyN ty) = some b := by
  have hk := kit_all
  simp only [List.all_cons, List.all_nil, Bool.and_eq_true, beq_iff_eq, Bool.and_true] at hk
  cases d <;> cases ty <;> first | (cases e; done) | (refine ⟨_, rfl, ?_⟩; simp only [isTy, Option.some.injEq] at e; subst e; simp only [tyN, hk]; rfl)
theorem se_isi {x y : Str} {py : Pos} {ty : Ty} (hg : Gl X x) (hm : X.mg x = none) (hv : bootBuiltins x = some (.builtin "isinstance")) (hgy : Gl X y) (hmy : X.mg y = none) (hvy : bootBuiltins y = some (.type (tyN ty))) (ha : SE X t W a ma)
    (hn : x ≠ "__name__" := by decide) (hdb : (x == ("__debug__" : Str)) = false := by decide) (hny : y ≠ "__name__" := by decide) (hdy : (y == ("__debug__" : Str)) = false := by decide)
    (he : starEach [a, .Name y py] X.env = (false, eval a X.env) :: starEach [.Name y py] X.env := by rfl) (he2 : starEach [.Name y py] X.env = (false, eval (.Name y py) X.env) :: starEach [] X.env := by rfl) (hpl : (backTo pos (starEach [.Name y py] X.env)).any (·.1) = false := by rfl) :
    SE X t W (.Call (.Name x p) [a, .Name y py] [] pos) (mOp1 (isiD ty) ma) := by
  refine PE.imp (pe_callB call_isi hg hm hv (pa_cons ha (pa_cons (pe_bltn (v := .ty (tyN ty)) hgy hmy hvy rfl hny hdy) pa_nil he2) he) hn hdb he hpl) fun σ H Q q => ?_
  refine tI_op1 (r := fun v H Q => rIsi X.K [v, .ty (tyN ty)] H Q) ?_ q
  intro H0 H x dx dz Q s e hx o
  obtain ⟨b, e1, rfl⟩ := Option.map_eq_some_iff.mp (show (isTy ty dx).map D.bl = some dz from e)
  obtain ⟨n, h1, h2⟩ := kit_is ty dx e1
  exact ⟨x, .ty (tyN ty), .type n, .type (tyN ty), b, rfl, .ty _, dTy_ty h1 hx, kit_ty h2, o.bl⟩
end
end F
end

section
set_option Elab.async false
set_option linter.all false
set_option autoImplicit false
set_option maxRecDepth 100000
/-! F layer, part M: comprehensions of two clauses; a = b = e; match; sorted. -/
namespace F
open PySem PySem.Spec PyProof.Rows L2
/-! ### two clauses -/
section
variable {X : Cx} {t : Tb} {W : WX}
variable {elt target iter target1 iter1 : Expr} {ifs ifs1 : List Expr} {scope : Scope} {own : List (Str × Nat)} {own1 : List Nat} {pos : Pos} {tg tg1 : Tg} {mi mi1 : M (List D)} {mc mc1 : M Bool} {mv : M R}
end
end F
end

section
set_option Elab.async false
set_option linter.all false
set_option autoImplicit false
set_option maxRecDepth 100000
/-! F layer, part N: a = b = e; match; sorted. -/
namespace F
open PySem PySem.Spec PyProof.Rows L2
section
variable {X : Cx} {t : Tb} {W : WX} {P : Nat → Bool} {a b : Expr} {ma mb : M R} {pos p : Pos}
/-- t1 = t2 = e -/
def sAsg2 (t1 t2 : Tg) (a : M R) : MS := fun e => sOf (a e) fun r e1 => sOf (leak r e1) fun d e2 => ofOS (t1.put d e2) fun e3 => ofOS (t2.put d e3) fun e4 => .nx e4
/-! ### match on texts -/
end
/-! ### sorted(text) -/
def chrs (z : Str) : List Str := z.cps.toList.map fun k => ⟨#[k]⟩
theorem strs_list : ∀ (vs : List Value) (cs : List Nat), vs.length = cs.length → (∀ (j : Nat) v, vs[j]? = some v → ∃ c u, cs[j]? = some c ∧ v = .str ⟨#[c]⟩ u) → StrsAre vs (cs.map fun k => (⟨#[k]⟩ : Str))
  | [], [], _, _ => .nil
  | [], _ :: _, h, _ => by cases h
  | _ :: _, [], h, _ => by cases h
  | v :: vs, k :: cs, h, a => by
    obtain ⟨c, u, h1, rfl⟩ := a 0 v rfl
    cases h1
    exact .cons _ u (strs_list vs cs (by simpa using h) fun j w hj => a (j + 1) w hj)
theorem strs_items (acc : Array Value) (z : Str) (h : ItemsOf (SignAt z) acc z.cps.size) : StrsAre acc.toList (chrs z) := by
  refine strs_list _ _ (by rw [Array.length_toList, Array.length_toList, h.1]) fun j v hj => ?_
  obtain ⟨c, u, h1, h2⟩ := h.2 j v (by rw [← Array.getElem?_toList]; exact hj)
  exact ⟨c, u, by rw [Array.getElem?_toList]; exact h1, h2⟩
def mkC (k : Nat) : Str := ⟨#[k]⟩
end F
end

section
set_option Elab.async false
set_option linter.all false
set_option autoImplicit false
set_option maxRecDepth 100000
/-! F layer, part P: defs by names. -/
namespace F
open PySem PySem.Spec PyProof.Rows L2
/-- the def that the module's name x stands for: called with some arguments, the defaults dfl behind them, it does as Z says -/
def FnG (P : Program) (w : World) (K : PySem.W.Frag) (mg : Str → Option Value) (base : Heap) (t : Tb) (x : Str) (k n : Nat) (Z : Fn) (dfl : List D) : Prop :=
  ∃ (f : Addr) (fd : FuncData) (ps : List Str) (dvs : List V) (ds : List Value), FO P w K mg base t k f fd ps Z n ∧ mg x = some (.ref f) ∧ PySem.W.keepIn K (.ref f) = true ∧ Binds K fd ps ds ∧ Vals dvs ds ∧ ∀ H, Dats ⟨K, t.cls, t.fld, t.tabs, t.ex, t.exM, t.exR⟩ H dfl dvs
section
variable {X : Cx} {t : Tb} {W : WX} {a : Expr} {es : List Expr} {ms : List (M R)} {pos p : Pos} {x : Str} {k kk n : Nat} {Z : Fn} {dfl : List D}
theorem se_fn (G : FnG X.prog X.w X.K X.mg X.base t x k n Z dfl) (hr : Room kk X.A) (hu : X.A.guards = some []) (tk : Takes X W) (md : List Md) (ha : SA X t W (a :: es) (mRs ms)) (hg : Gl X x := by rfl) (hk : k ≤ kk := by decide)
    (hn : ms.length + dfl.length = n := by rfl) (hdb : (x == ("__debug__" : Str)) = false := by decide) (he : starEach (a :: es) X.env = (false, eval a X.env) :: starEach es X.env := by rfl) (hpl : (backTo pos (starEach es X.env)).any (·.1) = false := by rfl) :
    SE X t W (.Call (.Name x p) (a :: es) [] pos) (mCall Z md dfl ms) := by
  obtain ⟨f, fd, ps, dvs, ds, G, hm, hk2, hb, hd, hdd⟩ := G
  exact se_call G (hr.mono hk) hu hg hm hk2 hb hd hdd tk md ha hn hdb he hpl
theorem u1 (hr : Room k X.A) : X.A.units + 1 < cLine := by have := hr.units; omega
theorem no_takes : Takes X W0 := fun u s' ⟨_, _, _, _, _, _, _, _, _, _, _, _, _, _, _, _, w⟩ => w.elim
end
theorem bt_str : bootBuiltins "str" = some (.type (tyN .str)) := by decide +kernel
/-! ### tables of the text -/
def strD (l : List (List Nat)) : List D := l.map .str
theorem tab_strs {K : PySem.W.Frag} {x : Str} {l : List (List Nat)} (c : Cn) (hK : c.K = K) (h : He.tupB K x (l.map fun z => .str (sS z)) = true) (hl : l.length ≤ lim := by decide) (hz : l.all (fun z => decide (z.length ≤ lim)) = true := by decide) (H : Hp) : Dat c H (.tup (strD l)) (.ref (He.ga K x)) := by
  subst hK
  refine ⟨by simpa [strD] using hl, He.ga c.K x, _, rfl, He.tupB_ok h H, ?_⟩
  have : ∀ l : List (List Nat), l.all (fun z => decide (z.length ≤ lim)) = true → Dats c H (strD l) ((l.map fun z => He.Dv.str (sS z)).map (He.Dv.v c.K)) := fun l => by
    induction l with
    | nil => exact fun _ => rfl
    | cons a l ih =>
      intro h
      rw [List.all_cons, Bool.and_eq_true] at h
      exact ⟨.str (sS a), _, rfl, ⟨rfl, of_decide_eq_true h.1⟩, ih h.2⟩
  exact this l hz
/-! ### the law's end -/
/-- all but the tables -/
def cutT (T : List (Addr × Option Str)) (H : Hp) : Hp := fun b => if b ∈ T.map (·.1) then none else H b
theorem cutT_same {T : List (Addr × Option Str)} {H : Hp} : Same (cutT T H) H := fun b o e => by
  unfold cutT at e
  split at e
  · cases e
  · exact e
theorem cutT_rd {T : List (Addr × Option Str)} {H : Hp} {a : Addr} {u : HO} (hT : ∀ p ∈ T, H p.1 = some (.tbl #[])) (hu : ∀ ps, u ≠ .tbl ps) (h : Rd H a u) : Rd (cutT T H) a u := by
  have na : a ∉ T.map (·.1) := fun z => by
    obtain ⟨p, hp, e⟩ := List.mem_map.mp z
    have q := hT p hp
    rw [e] at q
    rcases h with h | ⟨o, h⟩
    · rw [h] at q
      exact hu _ (Option.some.inj q)
    · rw [h] at q
      cases q
  unfold Rd cutT
  rw [if_neg na]
  exact h
theorem Rp_script {K : PySem.W.Frag} {t : Tb} {H : Hp} {a : Addr} {ns : List Int} (hl : ns.length ≤ lim) (h : SqL K H a (ns.map V.int)) (hT : ∀ p ∈ t.tabs, H p.1 = some (.tbl #[])) : Rp ⟨K, t.cls, t.fld, t.tabs, t.ex, t.exM, t.exR⟩ (cutT t.tabs H) (fun _ => none) H [some (.ref a)] [some (.sh (.lst (ns.map .int)))] (fun _ => []) := by
  have h' : SqL K (cutT t.tabs H) a (ns.map V.int) := h.elim (fun h => .inl (cutT_rd hT (fun ps z => by cases z) h)) .inr
  have hd : ∀ l : List Int, Dats ⟨K, t.cls, t.fld, t.tabs, t.ex, t.exM, t.exR⟩ (cutT t.tabs H) (l.map D.int) (l.map V.int) := fun l => by
    induction l with
    | nil => rfl
    | cons a l ih => exact ⟨.int a, _, rfl, rfl, ih⟩
  refine ⟨rfl, cutT_same, fun b o (e : none = some o) => (by cases e), fun i o e => ?_, fun i a h => (by cases h), fun i j a h => (by cases h), fun _ => List.nodup_nil, fun _ _ => rfl, fun p hp => ⟨#[], hT p hp, True.intro, fun q _ pos cv hc => ?_⟩, fun p hp => if_pos (List.mem_map.mpr ⟨p, hp, rfl⟩), fun p hp => rfl, fun p hp i z => by cases z⟩
  · match i, e with
    | 0, e =>
      cases e
      exact ⟨.ref a, rfl, rfl, by simpa using hl, a, _, rfl, h', hd ns⟩
  · have z : codeAmong pos [] = some cv := hc
    simp [codeAmong] at z
theorem law_end {t : Tb} {K : PySem.W.Frag} {Z : Fn} (hz : ∀ ns : List Int, ns.length ≤ 63 → ∃ os, Z [.sh (.lst (ns.map .int))] = .rt (.sh (.bl true)) os) (H : Hp) (a : Addr) (ns : List Int) (hl : ns.length ≤ 63) (hT : ∀ p ∈ t.tabs, H p.1 = some (.tbl #[])) (hS : SqL K H a (ns.map V.int)) :
    spF t ⟨K, t.cls, t.fld, t.tabs, t.ex, t.exM, t.exR⟩ Z 1 [.ref a] H (fun v _ => v = .bl true) fun _ _ _ => False := by
  obtain ⟨os, e⟩ := hz ns hl
  refine ⟨rfl, [.sh (.lst (ns.map .int))], cutT t.tabs H, fun _ => none, fun _ => [], Rp_script (Nat.le_trans hl (by decide)) hS hT, ?_⟩
  rw [e]
  rintro v H1 H' s ⟨bs, as, ⟨_, h⟩, _⟩
  exact h
theorem no_exc {P : Program} {w : World} (H : Hp) (s : Shared) (e : Value) (s' : Shared) : L2.CX P w [] H s (fun _ _ _ => False) e s' → False := fun ⟨_, _, _, _, _, _, _, _, _, _, _, _, h⟩ => h
theorem fd_uniq {K : PySem.W.Frag} {x qual : Str} {params : Arguments} {body : List Stmt} {scope : Scope} {dvs : List V} {kws : List (Str × V)} {f : Addr} {fd fd' : FuncData} (h : FunD K x qual params body scope dvs kws f fd) (h' : FunD K x qual params body scope dvs kws f fd') : fd = fd' := by
  obtain ⟨_, _, _, _, _, _, _, _, _, _, _, h1, _⟩ := h.ex
  obtain ⟨_, _, _, _, _, _, _, _, _, _, _, h2, _⟩ := h'.ex
  rw [h1] at h2
  cases h2
  rfl
end F
end

section
set_option Elab.async false
set_option linter.all false
set_option maxRecDepth 100000
set_option maxHeartbeats 2000000
/-! F layer, part Q: next of a generator expression over a text with one test. -/
namespace F
open PySem PySem.Spec PyProof.Rows L2
section
variable {X : Cx} {pins : List (Addr × Obj)} {σ : L2.St} {H : Hp} {s : Shared}
end
section
variable {prog : Program} {w : World} {A : Around} {E : Value → Shared → Prop} {s : Shared}
end
section
variable {X : Cx}
end
/-! ### tests -/
end F
end

section
set_option Elab.async false
set_option linter.all false
set_option maxRecDepth 100000
set_option maxHeartbeats 2000000
/-! F layer, part R: next; all, any; find, rfind; zip; range with two ends; forgetting. -/
namespace F
open PySem PySem.Spec PyProof.Rows L2
/-! ### tables -/
/-- next((x for x in e if f), None) -/
def mNextS (f : Nat → Bool) (a : M R) : M R := fun e => andThen (a e) fun r e1 => match peek r e1 with
  | some (.str x) => .ok (.d (match x.find? f with | some k => .str [k] | none => .non)) e1
  | _ => .bad
section
variable {X : Cx} {t : Tb} {W : WX} {P : Nat → Bool}
end
/-! ### all, any of a list of bools -/
/-! ### find, rfind -/
/-! ### zip -/
def zipF : List D → List D → List D
  | x :: xs, y :: ys => .tup [x, y] :: zipF xs ys
  | _, _ => []
theorem zipF_len : ∀ xs ys : List D, (zipF xs ys).length = min xs.length ys.length
  | [], ys => by simp [zipF]
  | x :: xs, [] => by simp [zipF]
  | x :: xs, y :: ys => by simp only [zipF, List.length_cons, zipF_len xs ys]; omega
theorem zipF_at : ∀ (xs ys : List D) (i : Nat) (hx : i < xs.length) (hy : i < ys.length), (zipF xs ys)[i]? = some (.tup [xs[i], ys[i]])
  | x :: xs, y :: ys, 0, _, _ => rfl
  | x :: xs, y :: ys, i + 1, hx, hy => by
    simp only [zipF, List.getElem?_cons_succ]
    rw [zipF_at xs ys i (Nat.lt_of_succ_lt_succ hx) (Nat.lt_of_succ_lt_succ hy)]
    rfl
def zipR : D → D → Env → Rs (List D)
  | .lst xs, .lst ys, e => .ok (zipF xs ys) e
  | _, _, _ => .bad
def mItZ (a b : M R) : M (List D) := fun e => andThen (a e) fun r e1 => andThen (leak r e1) fun x e2 => andThen (b e2) fun q e3 => andThen (leak q e3) fun y e4 => zipR x y e4
section
variable {X : Cx} {t : Tb} {W : WX} {a b : Expr} {ma mb : M R} {pos p tpos : Pos} {elts : List Expr} {kk : Nat}
theorem wk_zip {c : Cn} {H0 : Hp} {a b : Addr} {xs ys : List D} {vs ws : List V} (h1 : SqL c.K H0 a vs) (h2 : SqL c.K H0 b ws) (d1 : Dats c H0 xs vs) (d2 : Dats c H0 ys ws) : WkD c H0 (Itz c.K a b) (zipF xs ys) := by
  refine wk_mk (walk_zip (xs := vs) (ys := ws) rfl) (by rw [zipF_len, d1.len, d2.len]) (fun H2 H' s1 s2 => ⟨SqL.same (s1.trans s2) h1, SqL.same (s1.trans s2) h2⟩) ?_
  rintro i H2 H' x H'' hi s1 s2 ⟨T, x1, y1, rfl, hT, rfl, e1, e2⟩
  rw [zipF_len] at hi
  have hx : i < xs.length := by omega
  have hy : i < ys.length := by omega
  obtain ⟨v, g1, g2⟩ := d1.get (List.getElem?_eq_getElem hx)
  obtain ⟨w, g3, g4⟩ := d2.get (List.getElem?_eq_getElem hy)
  have e1 : vs[i]? = some x1 := e1
  have e2 : ws[i]? = some y1 := e2
  rw [e1] at g1
  rw [e2] at g3
  cases g1
  cases g3
  have hT2 : H2 T = none := by
    cases q : H2 T with
    | none => rfl
    | some o => rw [s2 _ _ q] at hT; cases hT
  refine ⟨_, zipF_at xs ys i hx hy, .inr ⟨T, _, rfl, hT, rfl, ?_⟩⟩
  exact dat_pair (fun d v h => Dat.mono (same_upd hT2) _ _ h) (Dat.mono s1 _ _ g2) (Dat.mono s1 _ _ g4)
end
/-! ### names forgotten -/
def sDrop (m : MS) (is : List Nat) : MS := fun e => match m e with
  | .nx e1 => .nx (wipeE e1 is)
  | .ct e1 => .ct (wipeE e1 is)
  | r => r
section
variable {X : Cx} {t : Tb} {W : WX} {P : Nat → Bool} {st : Stmt} {sts : List Stmt} {m : MS}
theorem Rp.dropAll {c : Cn} {H0 Fr H : Hp} {σ : St} : ∀ {is : List Nat} {e : Env} {as : Nat → List Addr}, Rp c H0 Fr H σ e as → ∃ as', Rp c H0 Fr H σ (wipeE e is) as'
  | [], e, as, r => ⟨as, r⟩
  | i :: is, e, as, r => Rp.dropAll (is := is) (r.drop i)
theorem PoS.drop {Fr H0 : Hp} {σ : St} {D : Ends} {c : Cn} {e : Env} {is : List Nat} (po : PoS t c W P Fr σ H0 D (sDrop m is e)) : PoS t c W P Fr σ H0 D (m e) := by
  unfold sDrop at po
  cases q : m e with
  | nx e1 =>
    rw [q] at po
    intro σ' H1 H' as s p rp
    obtain ⟨as2, rp2⟩ := Rp.dropAll (is := is) rp
    exact po σ' H1 H' as2 s p rp2
  | ct e1 =>
    rw [q] at po
    intro σ' H1 H' as s p rp
    obtain ⟨as2, rp2⟩ := Rp.dropAll (is := is) rp
    exact po σ' H1 H' as2 s p rp2
  | bk e1 => rw [q] at po; exact po
  | rt o e1 => rw [q] at po; exact po
  | ex k p e1 => rw [q] at po; exact po
  | bad => rw [q] at po; exact po
theorem ss_drop (is : List Nat) (h : SS X t W P st m) : SS X t W P st (sDrop m is) := PS.imp h fun D σ H ⟨e, H0, Fr, as, rp, po⟩ => ⟨e, H0, Fr, as, rp, po.drop⟩
theorem sss_drop (is : List Nat) (h : SSs X t W P sts m) : SSs X t W P sts (sDrop m is) := PSs.imp h fun D σ H ⟨e, H0, Fr, as, rp, po⟩ => ⟨e, H0, Fr, as, rp, po.drop⟩
end
/-! ### for the generator -/
theorem code_of {K : PySem.W.Frag} {x qual : Str} {params : Arguments} {body : List Stmt} {scope : Scope} {dvs : List V} {kws : List (Str × V)} {n : Str} {fd : FuncData} {cdv : Value} (F : FunD K x qual params body scope dvs kws (He.ga K n) fd) (h : cdv = fd.code) (hc : PySem.W.codeIn K cdv qual = true) : cdv = .ref (He.cT K (n, none)).1 := by
  obtain ⟨oc, od, dV, kV, doc, pm, an, cdv', ct, osl, rfl, lk, hcd, _, _⟩ := F.ex
  obtain ⟨c, e⟩ := He.codeIn_ref hc
  have e2 : (PySem.W.fnOf x qual params body scope dV kV doc pm an cdv' ct).code = Value.ref c := h.symm.trans e
  rw [e]
  exact congrArg Value.ref (He.codeOf_eq (p := (n, none)) lk e2).symm
end F
end

section
set_option Elab.async false
set_option linter.all false
set_option maxRecDepth 100000
set_option maxHeartbeats 2000000
/-! F layer, part T: lambdas that capture nothing, as values. -/
namespace F
open PySem PySem.Spec PyProof.Rows L2
/-- a lambda's words and its code object -/
structure LF where
  qual : Str
  params : Arguments
  body : Expr
  scope : Scope
  c : Addr
abbrev LF.nf (F : LF) : NdefX.NF := ⟨"<lambda>", F.qual, F.params, [], F.scope, [], F.c⟩
/-- the object at f is it -/
def FnL (f : Addr) (F : LF) : HO := .ext fun h => ∃ (pm ctv : Value), h.get? f = some (PySem.W.kla_obj "<lambda>" F.qual F.params F.body F.scope [] pm F.c ctv)
theorem fnL_at {P : Program} {w : World} {H : Hp} {h : Heap} {f : Addr} {F : LF} (hok : HOk P w H h) (e : H f = some (FnL f F)) : ∃ (pm ctv : Value), h.get? f = some (PySem.W.kla_obj "<lambda>" F.qual F.params F.body F.scope [] pm F.c ctv) := by
  obtain ⟨z, _, _⟩ := hok f _ e
  exact z
/-- the object at f is a lambda with the captured cells cl -/
def FnLc (f : Addr) (F : LF) (cl : List (Str × Addr)) : HO := .ext fun h => ∃ (pm ctv : Value), h.get? f = some (PySem.W.kla_obj "<lambda>" F.qual F.params F.body F.scope cl pm F.c ctv)
theorem fnLc_at {P : Program} {w : World} {H : Hp} {h : Heap} {f : Addr} {F : LF} {cl : List (Str × Addr)} (hok : HOk P w H h) (e : H f = some (FnLc f F cl)) : ∃ (pm ctv : Value), h.get? f = some (PySem.W.kla_obj "<lambda>" F.qual F.params F.body F.scope cl pm F.c ctv) := by
  obtain ⟨z, _, _⟩ := hok f _ e
  exact z
section
variable {X : Cx} {pins : List (Addr × Obj)} {σ : L2.St} {H : Hp} {s : Shared}
/-- what the making of a lambda asks: the maker's table at P, its entries code objects of the name q -/
def tLamC (P : Addr) (mk : Addr → LF) (cl : List (Str × Addr)) : TE := fun σ H Q => ∃ ps : Array Value, H P = some (.tbl ps) ∧ TriplesOk ps.toList ∧ (∀ (pos : Pos) (cv : Value), codeAmong pos ps.toList = some cv → ∃ a, cv = .ref a ∧ H a = some (LamX.CodeO a (mk a).qual)) ∧
  (∀ f c' ps', H c' = none → H f = none → f ≠ c' → TriplesOk ps'.toList → (∀ (pos : Pos) (cv : Value), codeAmong pos ps'.toList = some cv → codeAmong pos ps.toList = some cv ∨ cv = .ref c') → Q (.ref f) (upd (upd (upd H P (.tbl ps')) c' (LamX.CodeO c' (mk c').qual)) f (FnLc f (mk c') cl))) ∧
  (∀ f c', H f = none → H c' = some (LamX.CodeO c' (mk c').qual) → (∃ pos, codeAmong pos ps.toList = some (.ref c')) → Q (.ref f) (upd H f (FnLc f (mk c') cl)))
abbrev mkLf (q : Str) (params : Arguments) (body : Expr) (scope : Scope) (c' : Addr) : LF := ⟨q, params, body, scope, c'⟩
/-- the words of a lambda with captured cells -/
abbrev nfC (F : LF) (cl : List (Str × Addr)) : NdefX.NF := ⟨"<lambda>", F.qual, F.params, [], F.scope, cl, F.c⟩
/-- a new lambda is known from now on -/
theorem lam_known {F : LF} {cl : List (Str × Addr)} {h' : Heap} {t' : Nat} {H1 : Hp} {pm ctv : Value} {Q : VK} (I : Inv X pins σ H1 { s with heap := h', toks := t' }) (q : Q (.ref h'.objs.size) (upd H1 h'.objs.size (FnLc h'.objs.size F cl))) :
    EP X pins σ Q (.ref h'.objs.size) { s with heap := h'.push (PySem.W.kla_obj "<lambda>" F.qual F.params F.body F.scope cl pm F.c ctv), toks := t' } := by
  have here : (h'.push (PySem.W.kla_obj "<lambda>" F.qual F.params F.body F.scope cl pm F.c ctv)).get? h'.objs.size = some _ := Heap.get?_push_size _ rfl
  have stay : ∀ b u, h'.get? b = some u → (h'.push (PySem.W.kla_obj "<lambda>" F.qual F.params F.body F.scope cl pm F.c ctv)).get? b = some u := fun b u z => Heap.get?_push_of_some _ z
  exact ⟨.ref h'.objs.size, _, I.laid (o := FnLc h'.objs.size F cl) stay (Nat.le_refl _) ⟨⟨pm, ctv, here⟩, ⟨_, here⟩, fun _ _ ⟨p, t, z⟩ keep => ⟨p, t, keep _ z⟩⟩, rfl, q⟩
/-- a lambda is made: its code object is a new one, or the one that its table has for this place -/
theorem pe_lamG {c P : Addr} {params : Arguments} {body : Expr} {scope : Scope} {pos : Pos} {cl : List (Str × Addr)} (TB : LamX.TabB X.base X.mg c P) (hcode : X.env.code = .ref c) (hdef : defaultsOf params X.env = ([], []))
    (caught : X.Ok → ∀ y ∈ scope.names, y.2 = .free → ∃ c, X.env.cells.lookup y.1 = some c) (hcl : cloFrom X.env.cells scope.names [] = cl) : PE X (.Lambda params body scope pos) (tLamC P (mkLf (X.env.qual ++ "<lambda>") params body scope) cl) := by
  constructor
  intro pins s σ H Q I ⟨ps, hP, trip, known, fresh, again⟩
  have closure := closure_ok (caught I.ok)
  rw [hcl] at closure
  have table : s.heap.get? P = some { cls := .none, data := .fields ps } := I.hok P _ hP
  have bltn := TB.bm.keeps I.bk
  have code := TB.code.keeps I.bk
  have globals := I.mod.glob.keeps I.bk
  apply PySem.W.kla_eval hdef
  cases found : codeAmong pos ps.toList with
  | some cv =>
    have ⟨c', e, hc⟩ := known pos cv found
    subst e
    apply PySem.W.kla_makeFunctionHit closure I.ok.glob globals hcode code table trip found bltn
    intro ctv h' tk stay le
    exact lam_known (F := mkLf (X.env.qual ++ "<lambda>") params body scope c') (I.kept stay) (again _ c' (I.hok.fresh le) hc ⟨pos, found⟩)
  | none =>
    apply PySem.W.kla_makeFunction closure I.ok.glob globals hcode code table trip found TB.gP bltn
    rintro c' ctv h' tk ext le lt ⟨_, oc, vs, t, ⟨⟩, o1, o2, o3⟩ tab
    have rows : (ps ++ #[rawInt pos.line, rawInt pos.col, .ref c']).toList = ps.toList ++ [rawInt pos.line, rawInt pos.col, .ref c'] := Array.toList_append
    have J := LamX.inv_table (q := X.env.qual ++ "<lambda>") (t' := tk) (more := #[rawInt pos.line, rawInt pos.col, .ref c']) I hP ext tab le ⟨oc, vs, t, o1, o2, o3⟩
    refine lam_known (F := mkLf (X.env.qual ++ "<lambda>") params body scope c') J (fresh _ c' _ (I.hok.fresh le) (I.hok.fresh (Nat.le_trans le (Nat.le_of_lt lt))) (Nat.ne_of_gt lt) ?_ fun p' cv h => ?_)
    · exact rows ▸ PySem.TriplesOk_snoc _ _ _ _ trip
    · exact LamX.among_app _ trip (rows ▸ h)
/-- what the making of a lambda that captures nothing asks -/
def tLam (P : Addr) (q : Str) (mk : Addr → LF) : TE := fun σ H Q => ∃ ps : Array Value, H P = some (.tbl ps) ∧ TriplesOk ps.toList ∧ (∀ (pos : Pos) (cv : Value), codeAmong pos ps.toList = some cv → ∃ a, cv = .ref a ∧ H a = some (LamX.CodeO a q)) ∧
  (∀ f c' ps', H c' = none → H f = none → f ≠ c' → TriplesOk ps'.toList → (∀ (pos : Pos) (cv : Value), codeAmong pos ps'.toList = some cv → codeAmong pos ps.toList = some cv ∨ cv = .ref c') → Q (.ref f) (upd (upd (upd H P (.tbl ps')) c' (LamX.CodeO c' q)) f (FnL f (mk c')))) ∧
  (∀ f c', H f = none → H c' = some (LamX.CodeO c' q) → (∃ pos, codeAmong pos ps.toList = some (.ref c')) → Q (.ref f) (upd H f (FnL f (mk c'))))
theorem pe_lam {c P : Addr} {params : Arguments} {body : Expr} {scope : Scope} {pos : Pos} (TB : LamX.TabB X.base X.mg c P) (hcode : X.env.code = .ref c) (hdef : defaultsOf params X.env = ([], [])) (hcl : cloFrom X.env.cells scope.names [] = []) (hfree : ∀ y ∈ scope.names, y.2 ≠ .free) :
    PE X (.Lambda params body scope pos) (tLam P (X.env.qual ++ "<lambda>") fun c' => ⟨X.env.qual ++ "<lambda>", params, body, scope, c'⟩) :=
  pe_lamG TB hcode hdef (fun _ y hy e => absurd e (hfree y hy)) hcl
end
/-! ### a lambda called -/
section
variable {P : Program} {w : World} {A : Around} {s : Shared} {H : Hp}
/-- by the run of its body in the new frame -/
theorem lam_enter {F : LF} {cl : List (Str × Addr)} {f : Addr} {us : List Value} {bs : List (Str × Value)} {R : Result → Shared → Prop} (deep : A.depth < recursionLimit) (lim : s.heap.NoLimit) (ok : HOk P w H s.heap) (hf : H f = some (FnLc f F cl)) (hc : H F.c = some (LamX.CodeO F.c F.qual))
    (kind : F.scope.kind = .function) (co : F.scope.isCoroutine = false) (gen : F.scope.isGenerator = false) (nocell : ∀ y ∈ F.scope.names, y.2 ≠ .cell) (par : ∀ y ∈ bs, F.scope.names.lookup y.1 = some .local)
    (bind : ∀ pm ctv : Value, bindArgs (PySem.W.kla_fn "<lambda>" F.qual F.params F.body F.scope cl pm (.ref F.c) ctv) ⟨us, []⟩ = pure bs)
    (run : ∀ h1 : Heap, h1.Ns s.heap.objs.size (fun x => bs.reverse.lookup x) → Heap.SameBut s.heap.objs.size (s.heap.push { cls := .type "frame", data := .dict #[] }) h1 → (∀ b o, s.heap.get? b = some o → h1.get? b = some o) →
      wpAny (model P w) (A.deeper (NdefX.envF (nfC F cl) f s.heap.objs.size)) (eval F.body (NdefX.envF (nfC F cl) f s.heap.objs.size)) (fun v s' => R (.ok (.ret v)) s')
        (fun e s' => wpAny (model P w) (A.deeper (NdefX.envF (nfC F cl) f s.heap.objs.size)) (leaving (NdefX.envF (nfC F cl) f s.heap.objs.size) e) (fun _ s2 => R (.error e) s2) (fun e2 s2 => R (.error e2) s2) s') { s with heap := h1, toks := s.toks + bs.length }) :
    codeAny (model P w) A (.call (.ref f) ⟨us, []⟩) R s := by
  have ⟨pm, ctv, obj⟩ := fnLc_at ok hf
  have ⟨⟨oc, vs, t, c1, c2, c3⟩, _⟩ := ok F.c _ hc
  apply PySem.W.kla_callFunE deep obj rfl co gen rfl ⟨F.c, oc, vs, t, rfl, c1, c2, c3⟩
  rw [bind]
  apply wpAny_pure
  refine wpAny_newFunctionEnv nocell par (fun h1 ns same => ⟨lim.fresh _ same, PySem.W.kla_codeExpr (run h1 ns same fun b o e => ?_)⟩) kind
  exact same.extBut b o (Nat.ne_of_lt (Heap.lt_size e)) (Heap.get?_push_of_some _ e)
/-- what a frame gives back -/
theorem gives_back {X : Cx} {outer : List PySem.Env} {pins : List (Addr × Obj)} {σ : L2.St} {s0 s' : Shared} {H0 : Hp} {Q : VK} {v : Value} (h : EP X pins σ Q v s') (os : X.s_0.os = s0.os) (fs : X.fs = frs outer) (ex : X.ex = []) (h0 : X.H_0 = H0) (hp : X.s_0.heap = s0.heap) : L2.CE outer X.prog X.w H0 s0 Q v s' := by
  obtain ⟨x, H', J, r, q⟩ := h
  refine ⟨x, H', J.os.trans os, J.bare, ?_, J.hok, r, q⟩
  rw [← h0, ← hp, ← fs, ← ex]
  exact J.base
/-- a call that is back in X -/
theorem call_back {X : Cx} {CX : CXT} {pins : List (Addr × Obj)} {σ : L2.St} {H : Hp} {s : Shared} {f : Value} {us : List Value} {Q : VK} {E : XK} (I : Inv X pins σ H s) (pass : ∀ e s', CX X.stack H s E e s' → X.xe e s')
    (h : codeAny (model X.prog X.w) X.A (.call f ⟨us, []⟩) (L2.CR CX X.stack X.prog X.w H s Q E) s) : wpAny (model X.prog X.w) X.A (call f us) (EP X pins σ Q) X.xe s := by
  apply wpAny_call
  refine codeAny_mono h fun r s' q => ?_
  rcases r with e | fl
  · exact pass e s' q
  · cases fl <;> first | exact I.after q | exact False.elim q
end
/-! ### what it promises -/
structure LOk (P : Program) (w : World) (K : PySem.W.Frag) (mg : Str → Option Value) (base : Heap) (CX : CXT) (k : Nat) (F : LF) (n : Nat) (sp : Sp) : Prop where
  len : ∀ vs H Q E, sp vs H Q E → vs.length = n
  run : ∀ (A : Around) (outer : List PySem.Env) (s : Shared) (H : Hp) (f : Addr) (us : List Value) (vs : List V) (Q : VK) (E : XK), Room k A → A.guards = some [] → Env0 P w K mg base A outer s H → H f = some (FnL f F) → H F.c = some (LamX.CodeO F.c F.qual) →
    Vals vs us → sp vs H Q E → codeAny (model P w) A (.call (.ref f) ⟨us, []⟩) (CR CX outer P w H s Q E) s
section
variable {CX : CXT} {P : Program} {w : World} {K : PySem.W.Frag} {mg : Str → Option Value} {base : Heap} {N ps : List Str} {F : LF} {k j n : Nat} {sp : Sp}
theorem LOk.mono (o : LOk P w K mg base CX j F n sp) (h : j ≤ k) : LOk P w K mg base CX k F n sp := ⟨o.len, fun A outer s H f us vs Q E hr => o.run A outer s H f us vs Q E (hr.mono h)⟩
theorem lok_of (S : NdefX.NScope N ps [] F.scope) (hn : ps.length = n) (hb : ∀ (pm ctv : Value) (us : List Value), us.length = n → bindArgs (PySem.W.kla_fn "<lambda>" F.qual F.params F.body F.scope [] pm (.ref F.c) ctv) ⟨us, []⟩ = pure (ps.zip us)) (len : ∀ vs H Q E, sp vs H Q E → vs.length = n)
    (hbody : ∀ (A : Around) (outer : List PySem.Env) (s : Shared) (H : Hp) (f : Addr) (vs : List V) (Q : VK) (E : XK), Room k (A.deeper (NdefX.envF F.nf f s.heap.objs.size)) → (A.deeper (NdefX.envF F.nf f s.heap.objs.size)).guards = some [] → sp vs H Q E →
      ∃ t, PE (NdefX.ncx CX P w K mg base N F.nf f A outer s H E) F.body t ∧ t (NdefX.startF N vs []) H Q) :
    LOk P w K mg base CX (k + 1) F n sp := by
  refine ⟨len, fun A outer s H f us vs Q E hr hu e0 hf hc r hsp => ?_⟩
  have n1 := len _ _ _ _ hsp
  refine lam_enter (cl := []) (bs := ps.zip us) hr.depth (e0.mod.nolimit.keeps fun b o e => (e0.bs b o e).1) e0.hok hf hc S.kind S.co S.gen S.nocell (fun y hy => S.par y.1 (List.of_mem_zip hy).1) (fun pm ctv => hb pm ctv us (r.length.symm.trans n1)) fun h1 ns _ keep => ?_
  have ⟨tb, hp, hq⟩ := hbody A outer s H f vs Q E (hr.deeper _) hu hsp
  have none_caught : NdefX.CellsAt F.nf.cl [] [] s.heap H := ⟨rfl, (fun _ _ e => nomatch e), (fun _ _ _ e => nomatch e), fun _ _ e => nomatch e⟩
  have J := NdefX.inv_startN (CX := CX) (E := E) (f := f) (tk := s.toks + (ps.zip us).length) S hr.hd e0 (n1.trans hn.symm) r none_caught ns keep
  exact wpAny_mono (hp.run [] _ _ H Q J hq) (fun v s' z => gives_back z rfl rfl rfl rfl rfl) fun e s' z => z
end
/-- x(..), x a name that holds one of these; E: what is wished of what it raises -/
def tCallL (mk : Nat → Addr → LF) (i : Nat) (sp : Nat → Sp) (E : St → XK) (t : TA) : TE := fun σ H Q => ∃ n f c', σ[i]? = some (some (.ref f)) ∧ H f = some (FnL f (mk n c')) ∧
  t σ H fun vs H1 => H1 f = some (FnL f (mk n c')) ∧ H1 (mk n c').c = some (LamX.CodeO (mk n c').c (mk n c').qual) ∧ sp n vs H1 Q (E σ)
section
variable {X : Cx} {CX : CXT} {mk : Nat → Addr → LF} {i j k : Nat} {ar : Nat → Nat} {x : Str} {sp : Nat → Sp} {E : St → XK} {t : TA} {e : Expr} {es : List Expr} {p pos : Pos}
theorem pe_callL (Fn : ∀ n c', LOk X.prog X.w X.K X.mg X.base CX k (mk n c') (ar n) (sp n)) (hr : Room j X.A) (hu : X.A.guards = some []) (hk : k ≤ j) (hx : ∀ σ, PassesAt CX X σ (E σ)) (hN : X.N[i]? = some x) (hv : Vis X.env.scope x) (ha : PA X (e :: es) t)
    (hd : (x == ("__debug__" : Str)) = false := by decide) (hcd : (x == ("__classdict__" : Str)) = false := by decide)
    (he : starEach (e :: es) X.env = (false, eval e X.env) :: starEach es X.env := by rfl) (hpl : (backTo pos (starEach es X.env)).any (·.1) = false := by rfl) :
    PE X (.Call (.Name x p) (e :: es) [] pos) (tCallL mk i sp E t) := by
  constructor
  intro pins s σ H Q I ⟨n, f, c', hs, hf, ht⟩
  have lam : ∀ {s : Shared} {σ : L2.St} {H : Hp}, Inv X pins σ H s → H f = some (FnL f (mk n c')) → PySem.W.FnAt f s.heap := fun J e => (fnL_at J.hok e).elim fun _ z => z.elim fun _ o => ⟨_, _, _, _, o⟩
  have name := (pe_var (pos := p) hN hv hd hcd).run pins s σ H (fun v H1 => v = .ref f ∧ H1 = H) I ⟨.ref f, hs, rfl, rfl⟩
  refine wpAny_Call_Name_kw (thn name fun u s1 ⟨v, H1, I1, r1, e1, e2⟩ => ?_)
  subst e1 e2
  cases r1
  refine PySem.W.callWith_F (first := []) (lam I1 hf) (thn (ha.run pos pins s1 σ H1 _ I1 ht) fun us s2 ⟨vs, H2, I2, r, g1, g2, q⟩ => ⟨lam I2 g1, ?_⟩) he hpl
  exact call_back I2 (fun e s' z => hx σ pins H2 s2 e s' I2 z) ((Fn n c').run X.A X.stack s2 H2 f us vs Q (E σ) (hr.mono hk) hu I2.env0 g1 g2 r q)
end
end F
end

section
set_option Elab.async false
set_option linter.all false
set_option maxRecDepth 100000
set_option maxHeartbeats 2000000
/-! F layer, part U: lambdas as plain data. -/
namespace F
open PySem PySem.Spec PyProof.Rows L2
/-- what stands for the described thing (kind 1: the n-th lambda of the text) -/
def exL (mk : Nat → Addr → LF) (k : Nat) (d : D) (v : V) (H : Hp) : Prop := k = 1 ∧ ∃ n : Nat, d = .int (n : Int) ∧ ∃ f c', v = .ref f ∧ H f = some (FnL f (mk n c')) ∧ H (mk n c').c = some (LamX.CodeO (mk n c').c (mk n c').qual)
theorem exL_mono (mk : Nat → Addr → LF) (k : Nat) (d : D) (v : V) (H H' : Hp) (s : Same H H') (h : exL mk k d v H) : exL mk k d v H' := by
  obtain ⟨e, n, e2, f, c', h1, h2, h3⟩ := h
  exact ⟨e, n, e2, f, c', h1, s _ _ h2, s _ _ h3⟩
theorem exL_ref (mk : Nat → Addr → LF) (k : Nat) (d : D) (v : V) (H : Hp) (h : exL mk k d v H) : ∃ a, v = .ref a := by
  obtain ⟨_, _, _, f, _, h1, _⟩ := h
  exact ⟨f, h1⟩
/-- a table gets other entries -/
theorem Rp.tabNew {c : Cn} {H0 Fr H : Hp} {σ : St} {e : Env} {as : Nat → List Addr} (r : Rp c H0 Fr H σ e as) {p : Addr × Option Str} (hp : p ∈ c.tabs) (hu : ∀ q ∈ c.tabs, q.1 = p.1 → q.2 = p.2) {ps : Array Value} (ht : TriplesOk ps.toList)
    (h : ∀ q, p.2 = some q → ∀ (pos : Pos) (cv : Value), codeAmong pos ps.toList = some cv → ∃ a, cv = .ref a ∧ H0 a = some (LamX.CodeO a q)) : Rp c H0 Fr (upd H p.1 (.tbl ps)) σ e as := by
  refine ⟨r.len, fun b o e => ?_, fun b o e => ?_, fun i o e => ?_, r.off, r.sep, r.nd, r.emp, ⟨fun q hq => ?_, r.tab.n0, r.tab.nF, r.tab.na⟩⟩
  · rw [upd_ne fun z => by rw [z, r.tab.n0 p hp] at e; cases e]
    exact r.sub b o e
  · rw [upd_ne fun z => by rw [z, r.tab.nF p hp] at e; cases e]
    exact r.fr b o e
  · obtain ⟨v, g1, g2⟩ := r.own i o e
    exact ⟨v, g1, OwnR.mono (fun _ _ z => z) o v _ (fun a ha => upd_ne fun z => r.tab.na p hp i (z ▸ ha)) g2⟩
  · by_cases z : q.1 = p.1
    · refine ⟨ps, by rw [z, upd_same], ht, fun nm hn => ?_⟩
      rw [hu q hq z] at hn
      exact h nm hn
    · exact (r.tab.at_ q hq).mono (Same.refl _) (upd_ne z)
theorem upd_comm {H : Hp} {a b : Addr} {x y : HO} (h : a ≠ b) : upd (upd H a x) b y = upd (upd H b y) a x := by
  funext d
  by_cases z : d = a
  · subst z
    rw [upd_ne h, upd_same, upd_same]
  · by_cases z2 : d = b
    · subst z2
      rw [upd_same, upd_ne z, upd_same]
    · rw [upd_ne z2, upd_ne z, upd_ne z, upd_ne z2]
section
variable {X : Cx} {t : Tb} {W : WX}
theorem se_lam {mk : Nat → Addr → LF} {n : Nat} {c : Addr} {q : Addr × Option Str} {params : Arguments} {body : Expr} {scope : Scope} {pos : Pos} (hx : ∀ d v H, exL mk 1 d v H → t.ex 1 d v H) (hmk : ∀ c', mk n c' = ⟨X.env.qual ++ "<lambda>", params, body, scope, c'⟩)
    (TB : LamX.TabB X.base X.mg c q.1) (hq : q ∈ t.tabs) (hqn : q.2 = some (X.env.qual ++ "<lambda>")) (hu : ∀ z ∈ t.tabs, z.1 = q.1 → z.2 = q.2) (hcode : X.env.code = .ref c) (hdef : defaultsOf params X.env = ([], [])) (hcl : cloFrom X.env.cells scope.names [] = []) (hfree : ∀ y ∈ scope.names, y.2 ≠ .free) :
    SE X t W (.Lambda params body scope pos) (mC (.ex 1 (.int (n : Nat)))) := by
  refine PE.imp (pe_lam TB hcode hdef hcl hfree) fun σ H Q ⟨e, H0, Fr, as, rp, po⟩ => ?_
  have po : Po t (cn X t) W Fr σ H0 (rrR (cn X t) Fr σ) Q (.ok (.d (.ex 1 (.int (n : Nat)))) e) := po
  obtain ⟨ps, h1, h2, h3⟩ := rp.tab.at_ q hq
  have h3 := h3 _ hqn
  have nP : ∀ {b : Addr}, H b = none → q.1 ≠ b := fun h => rp.tab.ne hq h
  refine ⟨ps, h1, h2, fun pos cv hc => ?_, fun f c' ps' n1 n2 ne ht hps => ?_, fun f c' n2 hco hpos => ?_⟩
  · obtain ⟨a, e1, e2⟩ := h3 pos cv hc
    exact ⟨a, e1, rp.sub _ _ e2⟩
  · obtain ⟨s1, rp1⟩ := rp.alloc (x := LamX.CodeO c' (X.env.qual ++ "<lambda>")) n1
    have rp2 := rp1.tabNew hq hu ht fun nm hn pos cv hc => by
      rw [hqn] at hn
      cases hn
      rcases hps pos cv hc with z | z
      · obtain ⟨a, e1, e2⟩ := h3 pos cv z
        exact ⟨a, e1, s1 _ _ e2⟩
      · exact ⟨c', z, upd_same⟩
    have n3 : upd (upd H c' (LamX.CodeO c' (X.env.qual ++ "<lambda>"))) q.1 (.tbl ps') f = none := by rw [upd_ne (nP n2).symm, upd_ne ne]; exact n2
    obtain ⟨s2, rp3⟩ := rp2.alloc (x := FnL f ⟨X.env.qual ++ "<lambda>", params, body, scope, c'⟩) n3
    rw [upd_comm (nP n1)]
    refine po _ _ _ (s1.trans s2) ⟨⟨as, rp3⟩, hx _ _ _ ⟨rfl, n, rfl, f, c', rfl, ?_, ?_⟩⟩
    · rw [hmk, upd_same]
    · rw [hmk]
      exact s2 _ _ upd_same
  · obtain ⟨s2, rp3⟩ := rp.alloc (x := FnL f ⟨X.env.qual ++ "<lambda>", params, body, scope, c'⟩) n2
    obtain ⟨pos, hpos⟩ := hpos
    obtain ⟨a, e1, e2⟩ := h3 pos _ hpos
    cases e1
    refine po _ _ _ s2 ⟨⟨as, rp3⟩, hx _ _ _ ⟨rfl, n, rfl, f, c', rfl, ?_, ?_⟩⟩
    · rw [hmk, upd_same]
    · rw [hmk]
      exact s2 _ _ e2
/-! ### calls -/
def mCallV (i : Nat) (Fs : Nat → Fn) (ms : List (M R)) : M R := fun e => match slot e i with
  | some (.sh (.ex 1 (.int n))) => mCall (Fs n.toNat) [] [] ms e
  | _ => .bad
theorem se_callL {mk : Nat → Addr → LF} {Fs : Nat → Fn} {ar : Nat} {i j k : Nat} {x : Str} {a : Expr} {es : List Expr} {ms : List (M R)} {p pos : Pos} (hx : ∀ d v H, t.ex 1 d v H → exL mk 1 d v H)
    (Fn : ∀ n c', LOk X.prog X.w X.K X.mg X.base (L2.CX X.prog X.w) k (mk n c') ar (spF t (cn X t) (Fs n) ar)) (hr : Room j X.A) (hu : X.A.guards = some []) (tk : Takes X W) (hN : X.N[i]? = some x) (hv : Vis X.env.scope x) (ha : SA X t W (a :: es) (mRs ms))
    (hk : k ≤ j := by decide) (hn : ms.length = ar := by rfl) (hd : (x == ("__debug__" : Str)) = false := by decide) (hcd : (x == ("__classdict__" : Str)) = false := by decide)
    (he : starEach (a :: es) X.env = (false, eval a X.env) :: starEach es X.env := by rfl) (hpl : (backTo pos (starEach es X.env)).any (·.1) = false := by rfl) :
    SE X t W (.Call (.Name x p) (a :: es) [] pos) (mCallV i Fs ms) := by
  refine PE.imp (pe_callL (i := i) (ar := fun _ => ar) Fn hr hu hk (passAt tk) hN hv ha hd hcd he hpl) fun σ H Q ⟨e, H0, Fr, as, rp, po⟩ => ?_
  have key : ∃ n : Int, F.slot e i = some (.sh (.ex 1 (.int n))) := by
    unfold mCallV at po
    cases q : F.slot e i with
    | none => rw [q] at po; exact po.elim
    | some o =>
      rw [q] at po
      match o, po with
      | .sh (.ex 1 (.int n)), _ => exact ⟨n, rfl⟩
  obtain ⟨n, q⟩ := key
  have go : mCallV i Fs ms e = mCall (Fs n.toNat) [] [] ms e := by
    unfold mCallV
    rw [q]
    rfl
  rw [go] at po
  obtain ⟨v, h1, h2, h3⟩ := rp.own i _ q
  obtain ⟨_, n', e2, f, c', rfl, h4, h5⟩ := hx _ _ _ h3
  cases e2
  rw [Int.toNat_natCast] at po
  have cq := (call_po (dvs := []) (dfl := []) (c := cn X t) (n := ar) (fun _ => (rfl : ([] : List V) = [])) (by simpa using hn) rp po).also (R := fun _ H1 => H1 f = some (FnL f (mk n' c')) ∧ H1 (mk n' c').c = some (LamX.CodeO (mk n' c').c (mk n' c').qual)) fun a e b H1 H' s rr => by
    obtain ⟨⟨as1, rp1⟩, _⟩ := rr
    exact ⟨rp1.sub _ _ (s _ _ h4), rp1.sub _ _ (s _ _ h5)⟩
  refine ⟨n', f, c', h1, rp.sub _ _ h4, e, H0, Fr, as, rp, ?_⟩
  have eq : (fun (vs : List V) (H1 : Hp) => (H1 f = some (FnL f (mk n' c')) ∧ H1 (mk n' c').c = some (LamX.CodeO (mk n' c').c (mk n' c').qual)) ∧ spF t (cn X t) (Fs n') ar (vs ++ []) H1 Q (fun cls d H => W cls d σ H)) =
      fun vs H1 => H1 f = some (FnL f (mk n' c')) ∧ H1 (mk n' c').c = some (LamX.CodeO (mk n' c').c (mk n' c').qual) ∧ spF t (cn X t) (Fs n') ar vs H1 Q (fun cls d H => W cls d σ H) := by
    funext vs H1
    rw [List.append_nil, and_assoc]
  rw [eq] at cq
  exact cq
end
end F
end

section
set_option Elab.async false
set_option linter.all false
set_option autoImplicit false
set_option maxRecDepth 100000
set_option maxHeartbeats 2000000
/-! F layer, part V: dicts: stores, keys walked, list of the values. -/
namespace F
open PySem PySem.Spec PyProof.Rows L2
/-! ### d[k] = v, d a name's own dict -/
def putD (l : List (Ky × D)) (k : Ky) (d : D) : List (Ky × D) := if (l.any fun p => decide (p.1 = k)) = true then l.map (fun p => if p.1 = k then (p.1, d) else p) else l ++ [(k, d)]
def sPut (i : Nat) (k v : M R) : MS := fun e => sOf (v e) fun r e1 => sOf (leak r e1) fun d e2 => match slot e2 i with
  | some _ => sOf (k e2) fun q e3 => ofOS (peek q e3) fun j => ofOS (keyD j) fun kk => (match slot e3 i with
    | some (.fd l) => if l.length < lim then .nx (e3.set i (some (.fd (putD l kk d)))) else .bad
    | _ => .bad)
  | none => .bad
section
variable {c : Cn} {H : Hp}
theorem DatK.app : ∀ {l m : List (Ky × D)} {kvs ws : List (Key × V)}, DatK c H l kvs → DatK c H m ws → DatK c H (l ++ m) (kvs ++ ws)
  | [], m, kvs, ws, h, h2 => by
    have h : kvs = [] := h
    subst h
    exact h2
  | (k, d) :: l, m, kvs, ws, ⟨v, s, h1, h2, h3⟩, h4 => by
    subst h1
    exact ⟨v, s ++ ws, rfl, h2, DatK.app h3 h4⟩
theorem DatK.any {q : Ky} : ∀ {l : List (Ky × D)} {kvs : List (Key × V)}, DatK c H l kvs → (kvs.any fun kv => decide (kv.1 = kyK q)) = (l.any fun p => decide (p.1 = q))
  | [], kvs, h => by
    have h : kvs = [] := h
    subst h
    rfl
  | (k, d) :: l, kvs, ⟨v, s, h1, h2, h3⟩ => by
    subst h1
    simp only [List.any_cons, DatK.any h3]
    congr 1
    exact decide_eq_decide.mpr ⟨fun z => kyK_inj z, fun z => by rw [z]⟩
theorem DatK.mapP {q : Ky} {d : D} {v : V} (hd : Dat c H d v) : ∀ {l : List (Ky × D)} {kvs : List (Key × V)}, DatK c H l kvs → DatK c H (l.map (fun p => if p.1 = q then (p.1, d) else p)) (kvs.map (fun kv => if kv.1 = kyK q then (kv.1, v) else kv))
  | [], kvs, h => by
    have h : kvs = [] := h
    subst h
    rfl
  | (k, d') :: l, kvs, ⟨w, s, h1, h2, h3⟩ => by
    subst h1
    simp only [List.map_cons]
    by_cases z : k = q
    · rw [if_pos z, if_pos (by rw [z])]
      exact ⟨v, _, rfl, hd, DatK.mapP hd h3⟩
    · rw [if_neg z, if_neg fun y => z (kyK_inj y)]
      exact ⟨w, _, rfl, h2, DatK.mapP hd h3⟩
theorem DatK.put {q : Ky} {d : D} {v : V} (hd : Dat c H d v) {l : List (Ky × D)} {kvs : List (Key × V)} (h : DatK c H l kvs) : DatK c H (putD l q d) (putK kvs (kyK q) v) := by
  unfold putD putK
  rw [h.any]
  by_cases z : (l.any fun p => decide (p.1 = q)) = true
  · rw [if_pos z, if_pos z]
    exact DatK.mapP hd h
  · rw [if_neg z, if_neg z]
    exact h.app ⟨v, [], rfl, hd, rfl⟩
theorem DatK.len : ∀ {l : List (Ky × D)} {kvs : List (Key × V)}, DatK c H l kvs → kvs.length = l.length
  | [], kvs, h => by
    have h : kvs = [] := h
    subst h
    rfl
  | (k, d) :: l, kvs, ⟨v, s, h1, h2, h3⟩ => by
    subst h1
    simp [DatK.len h3]
end
section
variable {X : Cx} {t : Tb} {W : WX} {P : Nat → Bool} {a b k v : Expr} {ma mb mk mv : M R} {pos apos cpos p1 p : Pos} {i : Nat}
/-! ### for k in d: the dict stays as it is from now on -/
def keysD : Ky × D → D
  | (.i n, _) => .int n
  | (.s x, _) => .str x
def kyOk (p : Ky × D) : Bool := match p.1 with | .i _ => true | .s x => decide (x.length ≤ lim)
def mItK (i : Nat) : M (List D) := fun e => match F.slot e i with
  | some (.fd l) => if (l.all kyOk) = true then .ok (l.map keysD) (e.set i (some (.sh (.dct l)))) else .bad
  | _ => .bad
/-! ### list(d.values()) -/
end
end F
end

section
set_option Elab.async false
set_option linter.all false
set_option autoImplicit false
set_option maxRecDepth 100000
set_option maxHeartbeats 2000000
/-! F layer, part W: errors of the program's own classes: made, raised. -/
namespace F
open PySem PySem.Spec PyProof.Rows L2
/-- what an __init__ that keeps one value promises -/
def spI (C : Addr) (f : Str) : Sp := fun vs H Q _ => ∃ a x, vs = [.ref a, x] ∧ H a = some (exo a C none) ∧ ∀ dx, H dx = none → dx ≠ a → Q .non (upd (upd H dx (exd dx [(f, x)])) a (exo a C (some dx)))
section
variable {P : Program} {w : World} {K : PySem.W.Frag} {mg : Str → Option Value} {base : Heap}
theorem init_fn {CX : CXT} {qual x f msg : Str} {params : Arguments} {scope : Scope} {fI C : Addr} {fd : FuncData} {body : List Stmt} {j : Nat} {p1 p2 p3 p4 p5 p6 q1 q2 q3 q4 : Pos} (F : FunD K "__init__" qual params body scope [] [] fI fd) (S : FnScope ["self", x] ["self", x] scope) (T : OexC K C)
    (no : PySem.W.findIn K (.ref C) f = some none) (hm : mg "ValueError" = none) (vV : PySem.W.findCls K (.type "ValueError") (.type "type") "__init__" = some (.val (.builtin "ValueError.__init__")))
    (hb : body = [.Expr (.Call (.Attribute (.Name "ValueError" p1) "__init__" p2) [.Name "self" p3, .Constant (.str msg) j p4] [] p5) p6, .Assign [.Attribute (.Name "self" q1) f q2] (.Name x q3) q4])
    (hg : scope.names.lookup ("ValueError" : Str) = some NameKind.globalImplicit) (v0 : Vis scope "self") (v1 : Vis scope x) (hl : (p2.endLine == p5.line) = true) (hd : (x == ("__debug__" : Str)) = false) (hcd : (x == ("__classdict__" : Str)) = false) :
    FnOk P w K mg base CX 1 fI fd ["self", x] (spI C f) := by
  subst hb
  refine FunD.ok (k := 0) F S (fun vs H Q E h => by obtain ⟨a, y, e, _⟩ := h; rw [e]; rfl) fun cdv A outer s H vs Q E hr hsp => ?_
  obtain ⟨a, y, rfl, ha, hq⟩ := hsp
  let X := cxOf CX P w K mg base ["self", x] qual scope fI cdv A outer s H E
  have hc : eval (.Call (.Attribute (.Name "ValueError" p1) "__init__" p2) [.Name "self" p3, .Constant (.str msg) j p4] [] p5) X.env = (do
      let ov ← eval (.Name "ValueError" p1) X.env
      standAt p2.atName
      let (f, first) ← holding [ov] (getMethod ov "__init__" (plainOf (.Name "ValueError" p1) X.env))
      callWith p5 f first (backTo p5 (starEach [.Name "self" p3, .Constant (.str msg) j p4] X.env)) (backToKw p5 (keywordEach [] X.env))) := by
    have := fun ov => mcall_line (o := .Name "ValueError" p1) (m := "__init__") (apos := p2) (pos := p5) (env := X.env) (ov := ov) (n := 2) (args := backTo p5 (starEach [.Name "self" p3, .Constant (.str msg) j p4] X.env)) (kws := backToKw p5 (keywordEach [] X.env)) rfl hl
    simp only [← this]
    rfl
  refine ⟨_, pss_cons (ps_expr (pe_veinit (X := X) (pl := plainOf (.Name "ValueError" p1) X.env) hg hm vV (pa_cons (pe_var (i := 0) rfl v0) (pa_cons pe_str pa_nil)) hc)) (pss_one (ps_ost (X := X) (pe_var (i := 0) rfl v0) (pe_var (i := 1) rfl v1 hd hcd))), ?_⟩
  · exact ⟨.ref a, rfl, a, C, [.str msg], rfl, (show 1 ≤ 1000 by decide), T, ha, y, rfl, .ref a, rfl, a, C, rfl, T, no, .inl ⟨ha, fun dx h1 h2 => hq dx h1 h2⟩⟩
end
/-- a class of errors whose __init__ keeps one value -/
structure XcOk (P : Program) (w : World) (K : PySem.W.Frag) (mg : Str → Option Value) (base : Heap) (t : Tb) (k : Nat) (x : Str) : Prop where
  T : OexC K (t.cls k)
  ini : ∃ fI fd y, PySem.W.findIn K (.ref (t.cls k)) "__init__" = some (some (.ref fI)) ∧ PySem.W.typeIn K (.ref fI) = some (.type "function") ∧ FnOk P w K mg base (L2.CX P w) 1 fI fd ["self", y] (spI (t.cls k) (t.xf k)) ∧ Binds K fd ["self", y] []
  gC : mg x = some (.ref (t.cls k))
def sRaise (k : Nat) (a : M R) : MS := fun e => sOf (a e) fun r e1 => sOf (leak r e1) fun p e2 => .ex k p e2
section
variable {X : Cx} {t : Tb} {W : WX} {P : Nat → Bool} {a : Expr} {ma : M R} {pos pos' p : Pos}
theorem ss_raise {k j : Nat} {x : Str} (hc : X.calm = true) (tk : Takes X W) (G : XcOk X.prog X.w X.K X.mg X.base t k x) (hr : Room (j + 2) X.A) (hg : Gl X x) (ha : SE X t W a ma) (hdb : (x == ("__debug__" : Str)) = false := by decide) (he : starEach [a] X.env = (false, eval a X.env) :: starEach [] X.env := by rfl) :
    SS X t W P (.Raise (some (.Call (.Name x p) [a] [] pos)) none pos') (sRaise k ma) := by
  obtain ⟨fI, fd, y, iC, tI, F1, hb⟩ := G.ini
  refine PS.imp (ps_raise hc tk (pmk_oex (dvs := []) G.T iC tI F1 (hr.mono (j := 2) (by omega)) hb .nil (fun pins σ H s e s' I h => ?_) hg G.gC (pa_cons ha pa_nil he) hdb he rfl)) fun D σ H ⟨e, H0, Fr, as, rp, po⟩ => ?_
  · obtain ⟨_, _, _, _, _, _, _, _, _, _, _, _, z⟩ := h
    exact z.elim
  · refine ⟨e, H0, Fr, as, rp, PoS.of po fun r e1 v H1 H' s rr po => ?_⟩
    obtain ⟨d, e2, H2, as2, ql, s2, rp2, hd, po⟩ := PoS.leak po rr
    refine ⟨(show 1 ≤ 1000 by decide), fun a hn => ⟨a, v, rfl, upd_same, fun dx hdx hne => ?_⟩⟩
    rw [upd_ne hne] at hdx
    refine ⟨rfl, dx, [(t.xf k, v)], upd_same, by rw [upd_ne hne, upd_same], hdx, ?_⟩
    have eh : upd (del (upd (upd (upd H' a (exo a (t.cls k) none)) dx (exd dx [(t.xf k, v)])) a (exo a (t.cls k) (some dx))) a) dx (.xd [(t.xf k, v)]) = upd H' dx (.xd [(t.xf k, v)]) := by
      funext b
      by_cases z : b = dx
      · subst z
        rw [upd_same, upd_same]
      · rw [upd_ne z, upd_ne z]
        by_cases z2 : b = a
        · subst z2
          rw [del_same, hn]
        · rw [del_ne z2, upd_ne z2, upd_ne z, upd_ne z2]
    rw [eh]
    obtain ⟨s3, rp3⟩ := rp2.alloc (x := .xd [(t.xf k, v)]) hdx
    exact po σ _ _ _ _ _ s3 Prot.refl rp3 ⟨rfl, .inl ⟨dx, v, rfl, upd_same, Dat.mono s3 _ _ hd⟩⟩
end
end F
end

section
set_option Elab.async false
set_option linter.all false
set_option autoImplicit false
set_option maxRecDepth 100000
set_option maxHeartbeats 2000000
/-! F layer, part X: try: body / except C as e: suite. -/
namespace F
open PySem PySem.Spec PyProof.Rows L2
/-! ### data without some kinds of described things -/
mutual
def D.exs (g : Nat → Bool) : D → Bool
  | .non | .bl _ | .int _ | .str _ => true
  | .tup l | .lst l | .obj _ l => exsL g l
  | .dct l => exsK g l
  | .ex k _ => g k
def exsL (g : Nat → Bool) : List D → Bool
  | [] => true
  | d :: ds => d.exs g && exsL g ds
def exsK (g : Nat → Bool) : List (Ky × D) → Bool
  | [] => true
  | (_, d) :: ds => d.exs g && exsK g ds
end
mutual
def O.exs (g : Nat → Bool) : O → Bool
  | .sh d => d.exs g
  | .fl l => exsL g l
  | .fd l => exsK g l
  | .fo _ l => exsO g l
def exsO (g : Nat → Bool) : List O → Bool
  | [] => true
  | o :: os => o.exs g && exsO g os
end
mutual
theorem D.exs_all : ∀ d : D, d.exs (fun _ => true) = true
  | .non => rfl
  | .bl _ => rfl
  | .int _ => rfl
  | .str _ => rfl
  | .tup l => exsL_all l
  | .lst l => exsL_all l
  | .obj _ l => exsL_all l
  | .dct l => exsK_all l
  | .ex k _ => rfl
theorem exsL_all : ∀ l : List D, exsL (fun _ => true) l = true
  | [] => rfl
  | d :: ds => by
    show (d.exs _ && exsL _ ds) = true
    rw [D.exs_all d, exsL_all ds]
    rfl
theorem exsK_all : ∀ l : List (Ky × D), exsK (fun _ => true) l = true
  | [] => rfl
  | (_, d) :: ds => by
    show (d.exs _ && exsK _ ds) = true
    rw [D.exs_all d, exsK_all ds]
    rfl
end
mutual
theorem O.exs_all : ∀ o : O, o.exs (fun _ => true) = true
  | .sh d => D.exs_all d
  | .fl l => exsL_all l
  | .fd l => exsK_all l
  | .fo _ l => exsO_all l
theorem exsO_all : ∀ l : List O, exsO (fun _ => true) l = true
  | [] => rfl
  | o :: os => by
    show (o.exs _ && exsO _ os) = true
    rw [O.exs_all o, exsO_all os]
    rfl
end
section
variable {K : PySem.W.Frag} {cl : Nat → Addr} {fl : Nat → List Str} {tb : List (Addr × Option Str)} {ex ex' : Nat → D → V → Hp → Prop} {m m' r r'} {g : Nat → Bool}
theorem bAnd {a b : Bool} (h : (a && b) = true) : a = true ∧ b = true := Bool.and_eq_true_iff.mp h
mutual
theorem Dat.cv (h : ∀ k d v H, g k = true → ex k d v H → ex' k d v H) {H : Hp} : ∀ (d : D) (v : V), d.exs g = true → Dat ⟨K, cl, fl, tb, ex, m, r⟩ H d v → Dat ⟨K, cl, fl, tb, ex', m', r'⟩ H d v
  | .non, _, _, x => x
  | .bl _, _, _, x => x
  | .int _, _, _, x => x
  | .str _, _, _, x => x
  | .tup l, _, e, ⟨hl, a, vs, h1, h2, h3⟩ => ⟨hl, a, vs, h1, h2, Dats.cv h l vs e h3⟩
  | .lst l, _, e, ⟨hl, a, vs, h1, h2, h3⟩ => ⟨hl, a, vs, h1, h2, Dats.cv h l vs e h3⟩
  | .dct l, _, e, ⟨hl, a, vs, h1, h2, h3⟩ => ⟨hl, a, vs, h1, h2, DatK.cv h l vs e h3⟩
  | .obj k l, _, e, ⟨a, dx, fs, h1, h2, h3, h4⟩ => ⟨a, dx, fs, h1, h2, h3, Dats.cv h l _ e h4⟩
  | .ex k d, _, e, x => h k d _ _ e x
theorem Dats.cv (h : ∀ k d v H, g k = true → ex k d v H → ex' k d v H) {H : Hp} : ∀ (l : List D) (vs : List V), exsL g l = true → Dats ⟨K, cl, fl, tb, ex, m, r⟩ H l vs → Dats ⟨K, cl, fl, tb, ex', m', r'⟩ H l vs
  | [], _, _, x => x
  | d :: ds, _, e, ⟨v, q, h1, h2, h3⟩ => ⟨v, q, h1, Dat.cv h d v (bAnd e).1 h2, Dats.cv h ds q (bAnd e).2 h3⟩
theorem DatK.cv (h : ∀ k d v H, g k = true → ex k d v H → ex' k d v H) {H : Hp} : ∀ (l : List (Ky × D)) (vs : List (Key × V)), exsK g l = true → DatK ⟨K, cl, fl, tb, ex, m, r⟩ H l vs → DatK ⟨K, cl, fl, tb, ex', m', r'⟩ H l vs
  | [], _, _, x => x
  | (k, d) :: ds, _, e, ⟨v, q, h1, h2, h3⟩ => ⟨v, q, h1, Dat.cv h d v (bAnd e).1 h2, DatK.cv h ds q (bAnd e).2 h3⟩
end
mutual
theorem OwnR.cv (h : ∀ k d v H, g k = true → ex k d v H → ex' k d v H) {H0 H : Hp} : ∀ (o : O) (v : V) (as : List Addr), o.exs g = true → OwnR ⟨K, cl, fl, tb, ex, m, r⟩ H0 H o v as → OwnR ⟨K, cl, fl, tb, ex', m', r'⟩ H0 H o v as
  | .sh d, _, _, e, ⟨h1, h2⟩ => ⟨h1, Dat.cv h d _ e h2⟩
  | .fl l, _, _, e, ⟨hl, a, vs, h1, h2, h3, h4⟩ => ⟨hl, a, vs, h1, h2, h3, Dats.cv h l vs e h4⟩
  | .fd l, _, _, e, ⟨hl, a, vs, h1, h2, h3, h4⟩ => ⟨hl, a, vs, h1, h2, h3, DatK.cv h l vs e h4⟩
  | .fo k l, _, _, e, ⟨a, dx, fs, bs, h1, h2, h3, h4, h5, h6⟩ => ⟨a, dx, fs, bs, h1, h2, h3, h4, h5, OwnRs.cv h l _ bs e h6⟩
theorem OwnRs.cv (h : ∀ k d v H, g k = true → ex k d v H → ex' k d v H) {H0 H : Hp} : ∀ (os : List O) (vs : List V) (as : List Addr), exsO g os = true → OwnRs ⟨K, cl, fl, tb, ex, m, r⟩ H0 H os vs as → OwnRs ⟨K, cl, fl, tb, ex', m', r'⟩ H0 H os vs as
  | [], _, _, _, x => x
  | o :: os, _, _, e, ⟨v, q, bs, cs, h1, h2, h3, h4⟩ => ⟨v, q, bs, cs, h1, h2, OwnR.cv h o v bs (bAnd e).1 h3, OwnRs.cv h os q cs (bAnd e).2 h4⟩
end
theorem Rp.cv (h : ∀ k d v H, g k = true → ex k d v H → ex' k d v H) {H0 Fr H : Hp} {σ : St} {e : Env} {as : Nat → List Addr} (rp : Rp ⟨K, cl, fl, tb, ex, m, r⟩ H0 Fr H σ e as) (he : ∀ i o, slot e i = some o → o.exs g = true) : Rp ⟨K, cl, fl, tb, ex', m', r'⟩ H0 Fr H σ e as :=
  ⟨rp.len, rp.sub, rp.fr, fun i o q => let ⟨v, h1, h2⟩ := rp.own i o q; ⟨v, h1, OwnR.cv h o v _ (he i o q) h2⟩, rp.off, rp.sep, rp.nd, rp.emp, ⟨rp.tab.at_, rp.tab.n0, rp.tab.nF, rp.tab.na⟩⟩
end
/-! ### try -/
def g9 (k : Nat) : Bool := k != 9
def cleanE (e : Env) : Env := e.map fun s => match s with
  | some o => if o.exs g9 = true then some o else none
  | none => none
theorem cleanE_len (e : Env) : (cleanE e).length = e.length := List.length_map _
theorem cleanE_slot {e : Env} {i : Nat} {o : O} (h : slot (cleanE e) i = some o) : slot e i = some o ∧ o.exs g9 = true := by
  unfold slot cleanE at h
  rw [List.getElem?_map] at h
  unfold slot
  cases q : e[i]? with
  | none => rw [q] at h; cases h
  | some s =>
    rw [q] at h
    cases s with
    | none => cases h
    | some o1 =>
      simp only [Option.map_some] at h
      by_cases z : o1.exs g9 = true
      · rw [if_pos z] at h
        cases h
        exact ⟨rfl, z⟩
      · rw [if_neg z] at h
        cases h
/-- behind the suite -/
def sufEnd (i : Nat) : SR → SR
  | .nx e => .nx (cleanE (e.set i none))
  | .bk e => .bk (cleanE (e.set i none))
  | .ct e => .ct (cleanE (e.set i none))
  | .rt o e => if o.exs g9 = true then .rt o (cleanE (e.set i none)) else .bad
  | .ex _ _ _ => .bad
  | .bad => .bad
/-- the caught error, as a thing described -/
def sufEx (t : Tb) (K : PySem.W.Frag) (a : Addr) (cls : Value) (dx : Option Addr) (k : Nat) (d : D) (v : V) (H : Hp) : Prop :=
  t.ex k d v H ∨ (k = 9 ∧ ∃ (j : Nat) (p : D), d = .tup [.int (j : Nat), p] ∧ v = .ref a ∧ cls = .ref (t.cls j) ∧ ((∃ dd vp, dx = some dd ∧ H dd = some (.xd [(t.xf j, vp)]) ∧ Dat ⟨K, t.cls, t.fld, t.tabs, t.ex, t.exM, t.exR⟩ H p vp) ∨ (dx = none ∧ p = .non ∧ t.xf j = Str.empty)))
def sufT (t : Tb) (K : PySem.W.Frag) (a : Addr) (cls : Value) (dx : Option Addr) : Tb := ⟨t.cls, t.fld, t.xf, t.tabs, sufEx t K a cls dx, fun k d v H H' s h => by
    rcases h with h | ⟨h1, j, p, h2, h3, h4, h5⟩
    · exact .inl (t.exM k d v H H' s h)
    · refine .inr ⟨h1, j, p, h2, h3, h4, ?_⟩
      rcases h5 with ⟨dd, vp, h5, h6, h7⟩ | h5
      · exact .inl ⟨dd, vp, h5, s _ _ h6, Dat.mono s _ _ h7⟩
      · exact .inr h5, fun k d v H h => by
    rcases h with h | ⟨h1, j, p, h2, h3, h4, h5⟩
    · exact t.exR k d v H h
    · exact ⟨a, h3⟩⟩
section
variable {X : Cx} {t : Tb} {W : WX} {P : Nat → Bool} {pos pos' np : Pos}
theorem Rp.up {t : Tb} {K : PySem.W.Frag} {a : Addr} {cls : Value} {dx : Option Addr} {H0 Fr H : Hp} {σ : St} {e : Env} {as : Nat → List Addr} (rp : Rp ⟨K, t.cls, t.fld, t.tabs, t.ex, t.exM, t.exR⟩ H0 Fr H σ e as) :
    Rp ⟨K, (sufT t K a cls dx).cls, (sufT t K a cls dx).fld, (sufT t K a cls dx).tabs, (sufT t K a cls dx).ex, (sufT t K a cls dx).exM, (sufT t K a cls dx).exR⟩ H0 Fr H σ e as :=
  Rp.cv (g := fun _ => true) (fun k d v H _ h => .inl h) rp fun _ _ _ => O.exs_all _
theorem sufDown {t : Tb} {K : PySem.W.Frag} {a : Addr} {cls : Value} {dx : Option Addr} : ∀ k d v H, g9 k = true → (sufT t K a cls dx).ex k d v H → t.ex k d v H := fun k d v H hg h => by
  rcases h with h | ⟨h, _⟩
  · exact h
  · subst h
    cases hg
theorem Rp.clean {t : Tb} {K : PySem.W.Frag} {a : Addr} {cls : Value} {dx : Option Addr} {H0 Fr H : Hp} {σ : St} {e : Env} {as : Nat → List Addr} {i : Nat}
    (rp : Rp ⟨K, (sufT t K a cls dx).cls, (sufT t K a cls dx).fld, (sufT t K a cls dx).tabs, (sufT t K a cls dx).ex, (sufT t K a cls dx).exM, (sufT t K a cls dx).exR⟩ H0 Fr H σ e as) :
    ∃ as', Rp ⟨K, t.cls, t.fld, t.tabs, t.ex, t.exM, t.exR⟩ H0 Fr H (σ.set i none) (cleanE (e.set i none)) as' := by
  obtain ⟨as1, r1⟩ := rp.re (σ' := σ.set i none) (e' := cleanE (e.set i none)) (by rw [cleanE_len]; simpa using rp.len) id (fun j o q => by
    obtain ⟨h1, _⟩ := cleanE_slot q
    obtain ⟨hj, h2⟩ := slot_none h1
    exact ⟨h2, List.getElem?_set_ne (Ne.symm hj)⟩) (fun i j _ _ _ _ h => h)
  exact ⟨as1, Rp.cv sufDown r1 fun j o q => (cleanE_slot q).2⟩
theorem Rp.clean0 {t : Tb} {K : PySem.W.Frag} {a : Addr} {cls : Value} {dx : Option Addr} {H0 Fr H : Hp} {σ : St} {e : Env} {as : Nat → List Addr} {i : Nat}
    (rp : Rp ⟨K, (sufT t K a cls dx).cls, (sufT t K a cls dx).fld, (sufT t K a cls dx).tabs, (sufT t K a cls dx).ex, (sufT t K a cls dx).exM, (sufT t K a cls dx).exR⟩ H0 Fr H σ e as) :
    ∃ as', Rp ⟨K, t.cls, t.fld, t.tabs, t.ex, t.exM, t.exR⟩ H0 Fr H σ (cleanE (e.set i none)) as' := by
  obtain ⟨as1, r1⟩ := rp.re (σ' := σ) (e' := cleanE (e.set i none)) (by rw [cleanE_len]; simpa using rp.len) id (fun j o q => by
    obtain ⟨h1, _⟩ := cleanE_slot q
    obtain ⟨hj, h2⟩ := slot_none h1
    exact ⟨h2, rfl⟩) (fun i j _ _ _ _ h => h)
  exact ⟨as1, Rp.cv sufDown r1 fun j o q => (cleanE_slot q).2⟩
/-! ### e.f -/
def mXf (i k : Nat) : M R := fun e => match F.slot e i with
  | some (.sh (.ex 9 (.tup [.int j, p]))) => if j = (k : Nat) then .ok (.d p) e else .bad
  | _ => .bad
theorem se_xf {a : Addr} {oe : Obj} {cls : Value} {d : Option Addr} {pn : List (Addr × Obj)} {i k : Nat} {n f : Str} {p1 : Pos} (h9 : ∀ d v H, ¬ t.ex 9 d v H) (T : XfC X.K (t.cls k)) (hno : PySem.W.findIn X.K (.ref (t.cls k)) f = some none) (hxf : t.xf k = f)
    (hne : f ≠ Str.empty) (hz : Zc cls d oe) (hf : ∃ vs, oe.data = .fields vs) (ho : PE (X.suite a ((a, oe) :: pn)) (.Name n p1) (tVar i)) (hb : attributeBase (.Name n p1) f X.env (eval (.Name n p1) X.env) = eval (.Name n p1) X.env := by rfl) :
    SE (X.suite a ((a, oe) :: pn)) (sufT t X.K a cls d) W0 (.Attribute (.Name n p1) f pos) (mXf i k) := by
  refine PE.imp (pe_xf T hno hz hf ho hb) fun σ H Q ⟨e, H0, Fr, as, rp, po0⟩ => ?_
  have po : Po (sufT t X.K a cls d) (cn X (sufT t X.K a cls d)) W0 Fr σ H0 (rrR (cn X (sufT t X.K a cls d)) Fr σ) Q (match F.slot e i with
    | some (.sh (.ex 9 (.tup [.int j, p]))) => if j = (k : Nat) then .ok (.d p) e else .bad
    | _ => .bad) := po0
  clear po0
  split at po
  · rename_i j p q
    by_cases hj : j = (k : Nat)
    case neg =>
      rw [if_neg hj] at po
      exact po.elim
    rw [if_pos hj] at po
    obtain ⟨v, h1, h2, h3⟩ := rp.own i _ q
    rcases h3 with h3 | ⟨_, j2, p2, e1, e2, e3, e4⟩
    · exact absurd h3 (h9 _ _ _)
    · cases e1
      have ej : j2 = k := by omega
      subst ej
      subst e2
      refine ⟨.ref a, h1, rfl, e3, ?_⟩
      rcases e4 with ⟨dd, vp, e5, e6, e7⟩ | ⟨e5, e6, e7⟩
      · refine ⟨dd, _, vp, e5, rp.sub _ _ e6, by rw [hxf]; simp [List.lookup], ?_⟩
        exact po vp H0 H (Same.refl _) ⟨⟨as, rp⟩, Dat.cv (g := fun _ => true) (fun k d v H _ h => .inl h) _ _ (D.exs_all _) e7⟩
      · rw [hxf] at e7
        exact absurd e7 hne
  · exact po.elim
end
end F
end

section
set_option Elab.async false
set_option linter.all false
set_option autoImplicit false
set_option maxRecDepth 100000
set_option maxHeartbeats 4000000
/-! F layer, part Y: isinstance of a caught error that has fields. -/
namespace F
open PySem PySem.Spec PyProof.Rows L2
section
open PySem.W PySem.Calls
variable {prog : Program} {w : World} {K : Frag} {x D0 : Addr} {ox : Obj}
end
section
variable {X : Cx} {t : Tb} {a : Addr} {oe : Obj} {cls : Value} {d : Option Addr} {pn : List (Addr × Obj)}
end
end F
end

section
set_option Elab.async false
set_option linter.all false
set_option autoImplicit false
set_option maxRecDepth 100000
set_option maxHeartbeats 2000000
/-! F layer, part Z: a lambda's promise by its body. -/
namespace F
open PySem PySem.Spec PyProof.Rows L2
section
variable {P : Program} {w : World} {K : PySem.W.Frag} {mg : Str → Option Value} {base : Heap} {t : Tb}
theorem lam_F {F : LF} {N ps : List Str} {k n j : Nat} {m : M R} (S : NdefX.NScope N ps [] F.scope) (pr : Nat → Bool) (hn : ps.length = n) (hN : N.length = n + j) (Z : Fn) (hZ : ∀ os, Z os ≠ .bad → Z os = runF pr n j (sRet m) os)
    (hb : ∀ (pm ctv : Value) (us : List Value), us.length = n → bindArgs (PySem.W.kla_fn "<lambda>" F.qual F.params F.body F.scope [] pm (.ref F.c) ctv) ⟨us, []⟩ = pure (ps.zip us))
    (hbody : ∀ (A : Around) (outer : List PySem.Env) (s : Shared) (H : Hp) (f : Addr) (E : XK), Room k (A.deeper (NdefX.envF F.nf f s.heap.objs.size)) → (A.deeper (NdefX.envF F.nf f s.heap.objs.size)).guards = some [] → SE (NdefX.ncx (L2.CX P w) P w K mg base N F.nf f A outer s H E) t (fun cls d _ H => E cls d H) F.body m) :
    LOk P w K mg base (L2.CX P w) (k + 1) F n (spF t ⟨K, t.cls, t.fld, t.tabs, t.ex, t.exM, t.exR⟩ Z n) := by
  refine lok_of S hn hb (fun vs H Q E h => h.1) fun A outer s H f vs Q E hr hu hsp => ⟨_, hbody A outer s H f E hr hu, ?_⟩
  have hst : NdefX.startF N vs [] = vs.map some ++ List.replicate j none := by
    unfold NdefX.startF
    rw [hN, hsp.1, Nat.add_sub_cancel_left]
    rfl
  rw [hst]
  exact ret_read (X := NdefX.ncx (L2.CX P w) P w K mg base N F.nf f A outer s H E) (fn_read hZ hsp)
end
end F
end

section
set_option Elab.async false
set_option linter.all false
set_option autoImplicit false
set_option maxRecDepth 100000
set_option maxHeartbeats 4000000
/-! F layer, the end: the law's def is called where no repr is under way. -/
namespace F
open PySem PySem.Spec PyProof.Rows L2 LamX
section
variable {P : Program} {w : World} {K : PySem.W.Frag} {mg mb : Str → Option Value} {CX : CXT} {k : Nat} {fa a : Addr} {cs : List (Addr × Addr)} {fd : FuncData} {x : Str} {sp : Sp} {st : Shared} {vs : List Value} {ns : List Int}
/-- what the run starts from -/
structure Start (K : PySem.W.Frag) (mg mb : Str → Option Value) (cs : List (Addr × Addr)) (st : Shared) (a : Addr) (vs : List Value) (ns : List Int) : Prop where
  kin : K.In st.heap
  gns : st.heap.Ns mainGlobals mg
  bns : st.heap.Ns builtinsNs mb
  blt : ∀ y : Str, y ≠ "__name__" → mb y = bootBuiltins y
  nol : st.heap.NoLimit
  gen : st.gens = #[]
  tab : ∀ p ∈ cs, st.heap.get? p.2 = some { cls := .none, data := .fields #[] }
  tabK : ∀ p ∈ cs, K.lookup p.2 = none
  code : ∀ p ∈ cs, PySem.W.CodeHd st.heap p.1 p.2
  bm : ∃ (bm : Addr) (ob : Obj), mg "__builtins__" = some (.ref bm) ∧ bm ≠ builtinsNs ∧ st.heap.get? bm = some ob ∧ ob.cls = .type "module" ∧ ob.dict = some builtinsNs ∧ ob.data = .plain
  lst : st.heap.get? a = some { cls := .type "list", data := .seq vs.toArray }
  nums : IntsAre vs ns
  len : ns.length ≤ sizeLine
variable (T : Start K mg mb cs st a vs ns)
theorem Start.isTab {b : Addr} (T : Start K mg mb cs st a vs ns) (h : b ∈ cs.map (·.2)) : st.heap.get? b = some { cls := .none, data := .fields #[] } := by
  obtain ⟨p, hp, rfl⟩ := List.mem_map.mp h
  exact T.tab p hp
theorem Start.noTab (T : Start K mg mb cs st a vs ns) : a ∉ cs.map (·.2) := fun h => by
  have e := T.isTab h
  rw [T.lst] at e
  cases e
/-- the tracked heap: the tables, and the script's list or not -/
structure Track (K : PySem.W.Frag) (cs : List (Addr × Addr)) (st : Shared) (a : Addr) (ns : List Int) (P : Program) (w : World) (H : Hp) : Prop where
  tb : ∀ p ∈ cs, H p.2 = some (.tbl #[])
  sq : SqL K H a (ns.map V.int)
  ok : HOk P w H st.heap
  sup : ∀ b, H b ≠ none → b = a ∨ b ∈ cs.map (·.2)
  frz : ∀ b, H b = none ∨ b ∈ cs.map (·.2) ∨ ∃ o xs, H b = some (.frz o (.lst xs))
  own : H a ≠ none → K.lookup a = none
theorem track (T : Start K mg mb cs st a vs ns) (P : Program) (w : World) : ∃ H, Track K cs st a ns P w H := by
  have rv := vals_ints T.nums
  have nT := T.noTab
  have tne : ∀ p ∈ cs, p.2 ≠ a := fun p hp z => nT (z ▸ List.mem_map.mpr ⟨p, hp, rfl⟩)
  have tin : ∀ p ∈ cs, p.2 ∈ cs.map (·.2) := fun p hp => List.mem_map.mpr ⟨p, hp, rfl⟩
  cases q : K.lookup a with
  | some o =>
    have e := T.kin a o q
    rw [T.lst] at e
    cases e
    let H : Hp := fun b => if b ∈ cs.map (·.2) then some (.tbl #[]) else none
    have inn : ∀ {b}, b ∈ cs.map (·.2) → H b = some (.tbl #[]) := fun h => if_pos h
    have out : ∀ {b}, b ∉ cs.map (·.2) → H b = none := fun h => if_neg h
    refine ⟨H, fun p hp => inn (tin p hp), .inr ⟨_, vs.toArray, _, q, rfl, rfl, rfl, by rw [List.size_toArray, T.nums.length]; exact T.len, by simpa using rv⟩, fun b u z => ?_, fun b z => ?_, fun b => ?_, fun z => absurd (out nT) z⟩
    · by_cases hb : b ∈ cs.map (·.2)
      · rw [inn hb] at z
        cases z
        exact T.isTab hb
      · rw [out hb] at z
        cases z
    · by_cases hb : b ∈ cs.map (·.2)
      · exact .inr hb
      · exact absurd (out hb) z
    · by_cases hb : b ∈ cs.map (·.2)
      · exact .inr (.inl hb)
      · exact .inl (out hb)
  | none =>
    let L : HO := .frz { cls := .type "list", data := .seq vs.toArray } (.lst (ns.map V.int))
    let H : Hp := fun b => if b = a then some L else if b ∈ cs.map (·.2) then some (.tbl #[]) else none
    have at_ : H a = some L := if_pos rfl
    have inn : ∀ {b}, b ≠ a → b ∈ cs.map (·.2) → H b = some (.tbl #[]) := fun h1 h2 => (if_neg h1).trans (if_pos h2)
    have out : ∀ {b}, b ≠ a → b ∉ cs.map (·.2) → H b = none := fun h1 h2 => (if_neg h1).trans (if_neg h2)
    refine ⟨H, fun p hp => inn (tne p hp) (tin p hp), .inl (.inr ⟨_, at_⟩), fun b u z => ?_, fun b z => ?_, fun b => ?_, fun _ => q⟩
    · by_cases h1 : b = a
      · subst h1
        rw [at_] at z
        cases z
        exact ⟨T.lst, by rw [List.length_map]; exact T.len, vs, _, rv, T.lst⟩
      · by_cases h2 : b ∈ cs.map (·.2)
        · rw [inn h1 h2] at z
          cases z
          exact T.isTab h2
        · rw [out h1 h2] at z
          cases z
    · by_cases h1 : b = a
      · exact .inl h1
      · by_cases h2 : b ∈ cs.map (·.2)
        · exact .inr h2
        · exact absurd (out h1 h2) z
    · by_cases h1 : b = a
      · exact .inr (.inr ⟨_, _, by rw [h1]; exact at_⟩)
      · by_cases h2 : b ∈ cs.map (·.2)
        · exact .inr (.inl h2)
        · exact .inl (out h1 h2)
theorem law_q (T : Start K mg mb cs st a vs ns) (hr : Room k callerA) (G : ∀ base : Heap, K.In base → base.Ns mainGlobals mg → (∀ p ∈ cs, TabB base mg p.1 p.2) → FnQ P w K mg base CX k fa fd [x] sp) (hbind : ∀ (s : Shared) (u : Value), BindsTo s fd ⟨[u], []⟩ [(x, u)])
    (hsp : ∀ H : Hp, (∀ p ∈ cs, H p.2 = some (.tbl #[])) → SqL K H a (ns.map V.int) → sp [.ref a] H (fun v _ => v = .bl true) fun _ _ _ => False) (hCX : ∀ H e s', CX [] H st (fun _ _ _ => False) e s' → False) :
    codeAny (model P w) callerA (.call (.ref fa) ⟨[.ref a], []⟩) (fun r s' => r = .ok (.ret (.bool true)) ∧ OldK st.heap s'.heap ∧ s'.os = st.os ∧ AllBare s'.gens) st := by
  obtain ⟨H, R⟩ := track T P w
  -- what is neither the script's list nor a table is not tracked
  have free : ∀ {b : Addr} {o : Obj}, st.heap.get? b = some o → (∀ us n, o.data ≠ .seq us n) → o.data ≠ .fields #[] → H b = none := fun {b o} e h1 h2 => Classical.byContradiction fun z => by
    rcases R.sup b z with rfl | hb
    · rw [T.lst] at e
      cases e
      exact h1 _ _ rfl
    · rw [T.isTab hb] at e
      cases e
      exact h2 rfl
  have low : ∀ {b : Addr} {o : Obj}, st.heap.get? b = some o → H b = none → (hidT st.heap H).get? b = some o := fun e n => hidT_get e n
  have nsL : ∀ {b : Addr} {m : Str → Option Value}, st.heap.Ns b m → (hidT st.heap H).Ns b m := fun {b m} ⟨o, es, ep, e, d, r⟩ =>
    ⟨o, es, ep, low e (free e (fun _ _ z => by rw [d] at z; cases z) (fun z => by rw [d] at z; cases z)), d, r⟩
  have kinL : K.In (hidT st.heap H) := fun b o e => low (T.kin b o e) (Classical.byContradiction fun z => by
    rcases R.sup b z with rfl | hb
    · rw [R.own z] at e
      cases e
    · obtain ⟨p, hp, rfl⟩ := List.mem_map.mp hb
      rw [T.tabK p hp] at e
      cases e)
  have modL : L2.Mod K mg (hidT st.heap H) := ⟨kinL, nsL T.gns, ⟨mb, nsL T.bns, T.blt⟩, let ⟨mc, h1, h2⟩ := T.nol; ⟨mc, nsL h1, h2⟩⟩
  have tabL : ∀ p ∈ cs, TabB (hidT st.heap H) mg p.1 p.2 := fun p hp => by
    have here := T.tab p hp
    refine ⟨?c, ?b, fun z => ?g⟩
    case c =>
      obtain ⟨o, us, file, tf, flags, tg, inF, text, tt, e1, r1, r2, r3, r4⟩ := T.code p hp
      refine ⟨o, us, file, tf, flags, tg, inF, text, tt, low e1 (free e1 (fun _ _ z => ?_) fun z => ?_), r1, r2, r3, r4⟩
      · rw [r2] at z; cases z
      · rw [r2] at z
        cases z
        simp at r3
    case b =>
      obtain ⟨bm, ob, b1, b2, b3, b4, b5, b6⟩ := T.bm
      refine ⟨bm, ob, b1, b2, fun q => ?_, fun q => ?_, low b3 (free b3 (fun _ _ z => by rw [b6] at z; cases z) fun z => by rw [b6] at z; cases z), b4, b5, b6⟩
      · obtain ⟨o, es, ep, e, d, _⟩ := T.gns
        rw [q, e] at b3
        cases b3
        rw [d] at b6
        cases b6
      · rw [q, here] at b3
        cases b3
        cases b6
    case g =>
      obtain ⟨o, es, ep, e, d, _⟩ := T.gns
      rw [z, here] at e
      cases e
      cases d
  have env : Env0 P w K mg (hidT st.heap H) callerA [] st H := ⟨rfl, modL, fun b o e => of_hidT e, Nat.le_of_eq (hidT_size _ _), trivial, fun b hb => absurd (show b ∈ ([] : List Addr) from hb) (by simp), R.ok, .of_eq T.gen⟩
  have run := (G _ kinL (nsL T.gns) tabL).run callerA [] st H ⟨[.ref a], []⟩ [.ref a] [.ref a] _ _ hr rfl env (hbind st (.ref a)) (.cons rfl .nil) (hsp H R.tb R.sq)
  refine codeAny_mono run fun ans s2 got => ?_
  match ans, got with
  | .error e, got => exact (hCX H e s2 got).elim
  | .ok .next, got => exact got.elim
  | .ok .brk, got => exact got.elim
  | .ok .cont, got => exact got.elim
  | .ok (.ret u), ⟨v, H2, os, bare, un, ok2, rv, q⟩ =>
    have q : v = .bl true := q
    subst q
    have eu : u = Value.bool true := rv
    subst eu
    have same : ∀ b o, b ∉ cs.map (·.2) → st.heap.get? b = some o → s2.heap.get? b = some o := fun b o nb e => by
      cases z : H b with
      | none => exact un.keep b o e z (fun y => absurd (show b ∈ ([] : List Addr) from y) (by simp)) (by simp)
      | some u =>
        rcases R.frz b with y | y | ⟨ob, xs, y⟩
        · rw [z] at y; cases y
        · exact absurd y nb
        · obtain ⟨e1, _⟩ := R.ok b _ y
          obtain ⟨e2, _⟩ := ok2 b _ (un.frzs b ob _ y)
          rw [e] at e1
          cases e1
          exact e2
    have more : ∀ b, b ∈ cs.map (·.2) → ∃ p ∈ cs, p.2 = b ∧ ∃ ms : Array Value, s2.heap.get? b = some { cls := .none, data := .fields ms } := fun b hb => by
      obtain ⟨p, hp, rfl⟩ := List.mem_map.mp hb
      obtain ⟨ms, z⟩ := un.tbls p.2 #[] (R.tb p hp)
      exact ⟨p, hp, rfl, _, ok2 p.2 _ z⟩
    refine ⟨rfl, ⟨fun b o e => ?_, fun b o e => ?_⟩, os, bare⟩
    · by_cases hb : b ∈ cs.map (·.2)
      · obtain ⟨p, hp, rfl, ms, hm⟩ := more b hb
        rw [T.tab p hp] at e
        cases e
        exact .inr (.inl ⟨((T.code p hp).tab (T.tab p hp)).isCodeTable, rfl, #[], ms, rfl, by rw [Array.empty_append]; exact hm⟩)
      · exact .inl (same b o hb e)
    · by_cases hb : b ∈ cs.map (·.2)
      · obtain ⟨p, hp, rfl, ms, hm⟩ := more b hb
        exact ⟨_, hm⟩
      · exact ⟨o, same b o hb e⟩
end
/-- what is asked of the law's def -/
def LawQ (l : PySem.W.OpenLaw) (w : World) (K : PySem.W.Frag) (CX : CXT) (k n : Nat) (x : Str) (mg : Str → Option Value) (fa : Addr) (h : Heap) : Prop :=
  ∃ (fd : FuncData) (cs : List (Addr × Addr)) (sp : Sp), ((∀ p ∈ cs, h.get? p.2 = some { cls := .none, data := .fields #[] }) ∧ (∀ p ∈ cs, K.lookup p.2 = none) ∧ ∀ p ∈ cs, PySem.W.CodeHd h p.1 p.2) ∧ (∀ (s : Shared) (u : Value), BindsTo s fd ⟨[u], []⟩ [(x, u)]) ∧
    (∀ (H : Hp) (a : Addr) (ns : List Int), ns.length ≤ n → (∀ z ∈ ns, Builtin.Int.intBits z ≤ 1048576) → (∀ p ∈ cs, H p.2 = some (.tbl #[])) → SqL K H a (ns.map V.int) → sp [.ref a] H (fun v _ => v = .bl true) fun _ _ _ => False) ∧
    ∀ base : Heap, K.In base → base.Ns mainGlobals mg → (∀ p ∈ cs, TabB base mg p.1 p.2) → FnQ l.prog w K mg base CX k fa fd [x] sp
theorem walk_q {l : PySem.W.OpenLaw} {n k : Nat} {q : Program} {loose : List Str} {XP : (Str → Option Value) → Heap → Prop} {YP : World → Heap → Prop} {d : DefRec} {CX : World → CXT} {x : Str} (hn : l.most = some n) (hn2 : n ≤ sizeLine) (hdf : d.params.defaults = []) (hr : Room k callerA)
    (G : ∀ (w : World) (mg : Str → Option Value) (fa : Addr) (h : Heap), YP w h → h.Ns mainGlobals mg → mg d.name = some (.ref fa) → ∃ K : PySem.W.Frag, K.In h ∧ LawQ l w K (CX w) k n x mg fa h) (hCX : ∀ (w : World) (H : Hp) (s : Shared) (e : Value) (s' : Shared), CX w [] H s (fun _ _ _ => False) e s' → False) :
    PySem.W.WalkO q loose XP YP l.row.toRowW d [] (fun f vs => PySem.call f vs) := by
  refine Att.attach_callB hn hdf fun w s0 s1 mg mb fa o pm cd doc a vs ns E Y ho hd hcd hmg hl hi hlen hbits hg => ?_
  obtain ⟨K, kin, fd, cs, sp, ⟨hT, nT, C⟩, hb, hsp, hF⟩ := G w mg fa _ Y E.T.g hmg
  exact law_q ⟨kin, E.T.g, E.T.b, E.T.builtins, E.T.nolimit, hg, hT, nT, C, E.T.bmain, hl, hi, Nat.le_trans hlen hn2⟩ hr hF hb (fun H h1 h2 => hsp H a ns hlen hbits h1 h2) fun H e s' => hCX w H s1 e s'
end F
end

section
set_option Elab.async false
set_option linter.all false
set_option autoImplicit false
set_option maxRecDepth 100000
set_option maxHeartbeats 2000000
/-! F layer: repr of data. -/
namespace F
open PySem PySem.Spec PyProof.Rows L2
mutual
def D.py : D → Option PyData
  | .non => some .none
  | .bl b => some (.bool b)
  | .int i => some (.int i)
  | .str x => some (.str (sS x))
  | .tup l => (pys l).map .tuple
  | .lst l => (pys l).map .list
  | _ => none
def pys : List D → Option (List PyData)
  | [] => some []
  | d :: ds => match d.py, pys ds with
    | some p, some ps => some (p :: ps)
    | _, _ => none
end
mutual
theorem py_noDict : ∀ (d : D) (p : PyData), d.py = some p → p.hasDict = false
  | .non, _, h => by cases h; simp only [PyData.hasDict]
  | .bl _, _, h => by cases h; simp only [PyData.hasDict]
  | .int _, _, h => by cases h; simp only [PyData.hasDict]
  | .str _, _, h => by cases h; simp only [PyData.hasDict]
  | .tup l, p, h => by
    obtain ⟨ps, h1, rfl⟩ := Option.map_eq_some_iff.mp (show (pys l).map PyData.tuple = some p from h)
    simp only [PyData.hasDict]
    exact pys_noDict l ps h1
  | .lst l, p, h => by
    obtain ⟨ps, h1, rfl⟩ := Option.map_eq_some_iff.mp (show (pys l).map PyData.list = some p from h)
    simp only [PyData.hasDict]
    exact pys_noDict l ps h1
  | .dct _, _, h => by cases h
  | .obj _ _, _, h => by cases h
  | .ex _ _, _, h => by cases h
theorem pys_noDict : ∀ (l : List D) (ps : List PyData), pys l = some ps → PyData.hasDictAll ps = false
  | [], ps, h => by cases h; simp only [PyData.hasDictAll]
  | d :: ds, ps, h => by
    have h : (match d.py, pys ds with
      | some p, some ps => some (p :: ps)
      | _, _ => none) = some ps := h
    cases q1 : d.py with
    | none => rw [q1] at h; cases h
    | some p =>
      cases q2 : pys ds with
      | none => rw [q1, q2] at h; cases h
      | some qs =>
        rw [q1, q2] at h
        cases h
        simp only [PyData.hasDictAll, py_noDict d p q1, pys_noDict ds qs q2, Bool.or_false]
end
section
variable {X : Cx} {t : Tb} {pins : List (Addr × Obj)} {σ : L2.St} {H : Hp} {s : Shared}
mutual
theorem reads_dat (I : Inv X pins σ H s) : ∀ (d : D) (p : PyData) (v : V) (u : Value), d.py = some p → Dat (cn X t) H d v → RelV v u → ∃ as, Reads s.heap u p as
  | .non, _, _, _, h, e, r => by
    cases h
    cases e
    cases r
    exact ⟨_, .none⟩
  | .bl b, _, _, _, h, e, r => by
    cases h
    cases e
    cases r
    exact ⟨_, .bool b⟩
  | .int i, _, _, _, h, e, r => by
    cases h
    cases e
    obtain ⟨tk, rfl⟩ := r
    exact ⟨_, .int i tk⟩
  | .str x, _, _, _, h, ⟨e, _⟩, r => by
    cases h
    cases e
    obtain ⟨tk, rfl⟩ := r
    exact ⟨_, .str _ tk⟩
  | .tup l, p, _, _, h, ⟨_, a, vs, e, h2, h3⟩, r => by
    obtain ⟨ps, h1, rfl⟩ := Option.map_eq_some_iff.mp (show (pys l).map PyData.tuple = some p from h)
    subst e
    cases r
    obtain ⟨its, rv, ⟨o, ho, hc, n, hd⟩, _⟩ := I.tuple h2
    obtain ⟨as, ra⟩ := reads_dats I l ps vs its h1 h3 rv
    exact ⟨_, .tuple ho hc hd (by simpa using ra)⟩
  | .lst l, p, _, _, h, ⟨_, a, vs, e, h2, h3⟩, r => by
    obtain ⟨ps, h1, rfl⟩ := Option.map_eq_some_iff.mp (show (pys l).map PyData.list = some p from h)
    subst e
    cases r
    obtain ⟨its, rv, ⟨o, n, ho, hc, _, hd⟩, _⟩ := I.list h2
    obtain ⟨as, ra⟩ := reads_dats I l ps vs its h1 h3 rv
    exact ⟨_, .list ho hc hd (by simpa using ra)⟩
  | .dct _, _, _, _, h, _, _ => by cases h
  | .obj _ _, _, _, _, h, _, _ => by cases h
  | .ex _ _, _, _, _, h, _, _ => by cases h
theorem reads_dats (I : Inv X pins σ H s) : ∀ (l : List D) (ps : List PyData) (vs : List V) (us : List Value), pys l = some ps → Dats (cn X t) H l vs → Vals vs us → ∃ as, ReadsAll s.heap us ps as
  | [], ps, vs, us, h, e, r => by
    cases h
    have e : vs = [] := e
    subst e
    cases r
    exact ⟨_, .nil⟩
  | d :: ds, ps, vs, us, h, ⟨v, q, e, h2, h3⟩, r => by
    have h : (match d.py, pys ds with
      | some p, some ps => some (p :: ps)
      | _, _ => none) = some ps := h
    subst e
    cases q1 : d.py with
    | none => rw [q1] at h; cases h
    | some p =>
      cases q2 : pys ds with
      | none => rw [q1, q2] at h; cases h
      | some qs =>
        rw [q1, q2] at h
        cases h
        cases r with
        | cons r1 r2 =>
          obtain ⟨as, ra⟩ := reads_dat I d p v _ q1 h2 r1
          obtain ⟨bs, rb⟩ := reads_dats I ds qs q _ q2 h3 r2
          exact ⟨_, .cons ra rb⟩
end
end
end F
end

section
set_option Elab.async false
set_option linter.all false
set_option autoImplicit false
set_option maxRecDepth 100000
set_option maxHeartbeats 2000000
/-! F layer: what the written part must say of a class of errors, as tests. -/
namespace F
open PySem PySem.Spec PyProof.Rows L2
def shpB (K : PySem.W.Frag) (C : Addr) : Bool := match K.lookup C with
  | some ⟨.type "type", _, .cls cd, sl⟩ => (match cd.mro, sl.toList with
    | .ref C' :: bm, [_, _, _, _, some (.builtin n), _] => decide (C' = C) && (decide (n = "ValueError.__new__") && (!cd.hasDel && (cd.hasDict && PySem.HandSPX.refsVE bm)))
    | _, _ => false)
  | _ => false
def oexB (K : PySem.W.Frag) (C : Addr) : Bool := shpB K C && (decide (PySem.W.findIn K (.ref C) "__setattr__" = some (some (.builtin "object.__setattr__"))) && (decide (PySem.W.subIn K (.ref C) (.type "BaseException") = some true) && (decide (PySem.W.typeIn K (.ref C) = some (.type "type")) && PySem.W.keepIn K (.ref C))))
theorem oex_of {K : PySem.W.Frag} {C : Addr} (h : oexB K C = true) : OexC K C := by
  obtain ⟨h1, h⟩ := bAnd h
  obtain ⟨h2, h⟩ := bAnd h
  obtain ⟨h3, h⟩ := bAnd h
  obtain ⟨h4, h5⟩ := bAnd h
  refine ⟨?_, of_decide_eq_true h2, of_decide_eq_true h3, of_decide_eq_true h4, h5⟩
  unfold shpB at h1
  split at h1
  · rename_i dd cd sl lk
    split at h1
    · rename_i C' bm k0 k1 k2 k3 n k5 hm hs
      obtain ⟨e1, h1⟩ := bAnd h1
      obtain ⟨e2, h1⟩ := bAnd h1
      obtain ⟨e3, h1⟩ := bAnd h1
      obtain ⟨e4, e5⟩ := bAnd h1
      have e1 := of_decide_eq_true e1
      have e2 := of_decide_eq_true e2
      subst e1 e2
      obtain ⟨nm, bs, mro, ns, qn, hd, sn, sub, ab, col, del⟩ := cd
      simp only [Bool.not_eq_true'] at hm e3 e4
      subst hm e3 e4
      obtain ⟨l⟩ := sl
      simp only at hs
      subst hs
      exact ⟨nm, qn, ns, bs, bm, sn, sub, ab, col, dd, k0, k1, k2, k3, k5, lk, e5⟩
    · cases h1
  · cases h1
/-- .. and of its instances, for isinstance -/
def excB (K : PySem.W.Frag) (C : Addr) : Bool := xfB K C && (decide (PySem.W.findIn K (.ref C) "__class__" = some (some (.builtin "object.__class__"))) && (decide (PySem.W.specialIn K (.builtin "object.__class__") "__get__" = some (some (.builtin "getset_descriptor.__get__"))) && (decide (PySem.W.takesIn K (.builtin "object.__class__") = some true) && decide (PySem.W.mroIn K C (.type "object") = some true))))
theorem exc_of {K : PySem.W.Frag} {C : Addr} (h : excB K C = true) : XfC K C ∧ ExcC K C := by
  obtain ⟨h1, h⟩ := bAnd h
  obtain ⟨h2, h⟩ := bAnd h
  obtain ⟨h3, h⟩ := bAnd h
  obtain ⟨h4, h5⟩ := bAnd h
  have T := xfB_ok h1
  exact ⟨T, T.ga, T.gg, T.exC, T.hdC, of_decide_eq_true h2, of_decide_eq_true h3, of_decide_eq_true h4, of_decide_eq_true h5⟩
theorem ve_init (K : PySem.W.Frag) : PySem.W.findCls K (.type "ValueError") (.type "type") "__init__" = some (.val (.builtin "ValueError.__init__")) := by kernel_rfl
section
variable {P : Program} {w : World} {K : PySem.W.Frag} {mg : Str → Option Value} {base : Heap} {t : Tb}
/-- a class of errors over ValueError whose __init__(self, y) keeps y as the field of the class -/
theorem xc_mk {k : Nat} {x qual y msg : Str} {params : Arguments} {scope : Scope} {fI : Addr} {fd : FuncData} {body : List Stmt} {j : Nat} {p1 p2 p3 p4 p5 p6 q1 q2 q3 q4 : Pos} (F : FunD K "__init__" qual params body scope [] [] fI fd) (S : FnScope ["self", y] ["self", y] scope) (ho : oexB K (t.cls k) = true)
    (no : PySem.W.findIn K (.ref (t.cls k)) (t.xf k) = some none) (hm : mg "ValueError" = none) (me : Meth K (t.cls k) "__init__" fI) (gC : mg x = some (.ref (t.cls k))) (hbd : Binds K fd ["self", y] [])
    (hb : body = [.Expr (.Call (.Attribute (.Name "ValueError" p1) "__init__" p2) [.Name "self" p3, .Constant (.str msg) j p4] [] p5) p6, .Assign [.Attribute (.Name "self" q1) (t.xf k) q2] (.Name y q3) q4])
    (hg : scope.names.lookup ("ValueError" : Str) = some NameKind.globalImplicit) (v0 : Vis scope "self") (v1 : Vis scope y) (hl : (p2.endLine == p5.line) = true) (hd : (y == ("__debug__" : Str)) = false) (hcd : (y == ("__classdict__" : Str)) = false) : XcOk P w K mg base t k x :=
  ⟨oex_of ho, ⟨fI, fd, y, me.at_, eq_of_beq me.fn, init_fn F S (oex_of ho) no hm (ve_init K) hb hg v0 v1 hl hd hcd, hbd⟩, gC⟩
end
end F
end

section
set_option Elab.async false
set_option linter.all false
set_option autoImplicit false
set_option maxRecDepth 100000
set_option maxHeartbeats 2000000
/-! F layer: a lambda that captures names, handed to a def at once. -/
namespace F
open PySem PySem.Spec PyProof.Rows L2
section
variable {X : Cx} {pins : List (Addr × Obj)} {σ : L2.St} {H : Hp} {s : Shared}
end
end F
end

section
set_option Elab.async false
set_option linter.all false
set_option autoImplicit false
set_option maxRecDepth 100000
set_option maxHeartbeats 2000000
/-! F layer: g(lambda: e), the names of e captured: e as a thunk. -/
namespace F
open PySem PySem.Spec PyProof.Rows L2
def g2 (k : Nat) : Bool := k != 2
section
variable {K : PySem.W.Frag} {t : Tb} {f c' : Addr} {Lf : LF} {cl : List (Str × Addr)} {Hc : Hp}
/-! ### the thunk -/
/-! ### the def that gets it -/
/-! ### the call -/
end
end F
end

section
set_option Elab.async false
set_option linter.all false
set_option autoImplicit false
set_option maxRecDepth 100000
set_option maxHeartbeats 2000000
/-! F layer: products of lists and texts, list(text), tuple(list), min of a list, gets. -/
namespace F
open PySem PySem.Spec PyProof.Rows L2
/-! ### list * int -/
/-- the two sides of k * l: the int has no answer, the list gives a new one -/
theorem rmulW (a : Int) (t : Tok) (l : Addr) (items : Array Value) (n : Nat) (sl : Array (Option Value)) :
    Meets (Builtin.«int.__rmul__» ⟨[.int a t, .ref l], []⟩) (fun _ R s => s.heap.get? l = some { cls := .type "list", dict := none, data := .seq items n, slots := sl } ∧ R (.ok (.ret Value.notImplemented)) s) := by
  apply Meets.of_wp
  rintro prog w A R ⟨hp, g, d, tk, os⟩ ⟨at_l, k⟩
  wp_walk
  exact ⟨_, rfl, k⟩
/-- what a repeated list holds -/
abbrev repA (items : Array Value) (m : Nat) : Array Value := List.foldl (fun x1 x2 => x1 ++ x2) #[] (List.replicate (if items.isEmpty = true then 0 else m) items)
theorem repA_eq (its : List Value) (m : Nat) : repA its.toArray m = (List.replicate m its).flatten.toArray := by
  have z := foldl_rep its
  cases its with
  | nil => simp [repA]
  | cons v vs => exact (congrArg (fun j => List.foldl (fun x1 x2 => x1 ++ x2) #[] (List.replicate j (v :: vs).toArray)) (if_neg (by simp))).trans ((z m []).trans (by rw [List.nil_append]))
theorem mulW (l : Addr) (items : Array Value) (n : Nat) (x : Int) (u : Tok) (sl : Array (Option Value)) (hc0 : ¬(!Builtin.List.listFitsIndex x) = true) (hc1 : ¬items.size * x.toNat > (2 ^ 63 - 1) / 8) (hc2 : ¬Builtin.List.listTooLong (items.size * x.toNat) = true) :
    Meets (Builtin.«list.__mul__» ⟨[.ref l, .int x u], []⟩) (fun _ R s => s.heap.get? l = some { cls := .type "list", dict := none, data := .seq items n, slots := sl } ∧ R (.ok (.ret (Value.ref s.heap.objs.size))) { s with heap := s.heap.push { cls := Value.type "list", data := Data.seq (repA items x.toNat) }, toks := s.toks }) := by
  apply Meets.of_wp
  rintro prog w A R ⟨hp, g, d, tk, os⟩ ⟨at_l, k⟩
  have fits := Nat.not_lt.mpr (AutoListH.joined_fits hc2)
  wp_walk
  apply wpAny_ite_false (decide_eq_false fits)
  wp_walk
  exact ⟨_, rfl, k⟩
def rRepR (K : PySem.W.Frag) : R2 := fun x y H Q => ∃ l k xs, x = .ref l ∧ y = .int k ∧ SqL K H l xs ∧ -(2 ^ 63) ≤ k ∧ k < 2 ^ 63 ∧ xs.length * k.toNat ≤ sizeLine ∧
  ∀ p, H p = none → Q (.ref p) (upd H p (.lst (List.replicate k.toNat xs).flatten))
theorem op_repR {X : Cx} : OpR X (binaryOp .Mult) (rRepR X.K) := by
  rintro pins s σ H x y v u Q I rx ry ⟨l, k, xs, e1, e2, hH, lo, hi, few, q⟩
  subst e1 e2
  cases rx
  obtain ⟨t, e3⟩ := ry
  subst e3
  have ⟨its, n, sl, _, r, len, at_l⟩ := sq_lst I hH
  have is_l : s.TypeIs (.ref l) "list" := ⟨_, at_l, rfl⟩
  have size : its.toArray.size * k.toNat ≤ sizeLine := by
    rw [List.size_toArray, ← len]
    exact few
  have c0 : ¬(!Builtin.List.listFitsIndex k) = true := fun z => by
    rw [fitsIndex_both lo hi] at z
    cases z
  have c1 : ¬its.toArray.size * k.toNat > (2 ^ 63 - 1) / 8 := fun z => by
    have le : (sizeLine : Nat) ≤ (2 ^ 63 - 1) / 8 := by decide
    exact absurd (Nat.lt_of_lt_of_le z (Nat.le_trans size le)) (Nat.lt_irrefl _)
  have c2 : ¬Builtin.List.listTooLong (its.toArray.size * k.toNat) = true := fun z => by
    rw [notLongL size] at z
    cases z
  have mul := call_meets (prog := X.prog) (w := X.w) (s := s) (A := X.A) (E := X.xe) (Q := EP X pins σ Q) F.slot_list_mul is_l F.entry_list_mul (F.args_list_mul_2 _ _) (mulW l its.toArray n k t sl c0 c1 c2) ⟨at_l, by
    rw [repA_eq]
    refine ⟨.ref _, _, I.lnew (r.rep k.toNat) ?_, rfl, q _ I.fresh⟩
    rw [PyProof.Rows.lm_len_rep_flat, Nat.mul_comm]
    exact few⟩
  have rmul := F.slot_int_rmul
  exact wpAny_binaryOp_repeat_ref (T := "list") (U := "int") (by decide) is_l (fun s' => typeIs_int s' k t) noFill_list_mul F.fills_int_mul rmul repeat_list F.slot_int_index.lookup
    (call_meets rmul (typeIs_int s k t) F.entry_int_rmul (F.args_int_rmul_2 _ _) (rmulW k t l its.toArray n sl) ⟨at_l, rfl, is_l, mul⟩)
/-- l repeated -/
def repN {α : Type} (l : List α) : Nat → List α
  | 0 => []
  | n + 1 => l ++ repN l n
theorem repN_rep {α : Type} (l : List α) : ∀ n, (List.replicate n l).flatten = repN l n
  | 0 => rfl
  | n + 1 => by rw [List.replicate_succ, List.flatten_cons, repN_rep l n]; rfl
theorem repN_len {α : Type} (l : List α) : ∀ n, (repN l n).length = l.length * n
  | 0 => rfl
  | n + 1 => by rw [repN, List.length_append, repN_len l n, Nat.mul_succ, Nat.add_comm]
theorem Dats.rep {c : Cn} {H : Hp} {l : List D} {vs : List V} (h : Dats c H l vs) : ∀ n, Dats c H (repN l n) (repN vs n)
  | 0 => rfl
  | n + 1 => Dats.app h (Dats.rep h n)
def repL : D → D → Option (List D)
  | .lst l, .int k => if -9223372036854775808 ≤ k ∧ k < 9223372036854775808 ∧ l.length * k.toNat ≤ lim then some (repN l k.toNat) else none
  | _, _ => none
theorem v_rep {c : Cn} : LOp2 c (rRepR c.K) repL := by
  intro H0 H x y dx dy l Q s e hx hy nl
  match dx, dy, e with
  | .lst a, .int k, e =>
    obtain ⟨h1, p1, vs, rfl, h2, h3⟩ := hx
    have hy : y = .int k := hy
    subst hy
    have e : (if -9223372036854775808 ≤ k ∧ k < 9223372036854775808 ∧ a.length * k.toNat ≤ lim then some (repN a k.toNat) else none) = some l := e
    by_cases hl : -9223372036854775808 ≤ k ∧ k < 9223372036854775808 ∧ a.length * k.toNat ≤ lim
    case neg =>
      rw [if_neg hl] at e
      cases e
    rw [if_pos hl] at e
    cases e
    refine ⟨p1, k, vs, rfl, rfl, h2, by omega, by omega, by rw [h3.len, sizeLine_lim]; exact hl.2.2, fun p hp => ?_⟩
    rw [repN_rep]
    exact nl p _ hp (by rw [repN_len]; exact hl.2.2) (h3.rep _)
/-! ### text * int -/
def rRepS : R2 := fun x y H Q => ∃ (z : Str) (k : Int), x = .str z ∧ y = .int k ∧ -(2 ^ 63) ≤ k ∧ k < 2 ^ 63 ∧ z.cps.size * k.toNat ≤ sizeLine ∧ Q (.str ⟨(List.replicate k.toNat z.cps.toList).flatten.toArray⟩) H
theorem foldl_repA (a : Array Nat) : ∀ (m : Nat) (b : Array Nat), List.foldl (fun x1 x2 => x1 ++ x2) b (List.replicate m a) = b ++ (List.replicate m a.toList).flatten.toArray
  | 0, b => by simp
  | m + 1, b => by
    rw [List.replicate_succ, List.foldl_cons, foldl_repA a m, List.replicate_succ, List.flatten_cons, Array.append_assoc]
    congr 1
    apply Array.ext'
    simp
theorem op_repS {X : Cx} : OpR X (binaryOp .Mult) rRepS := by
  intro pins s σ H x y v u Q I rx ry h
  obtain ⟨z, k, rfl, rfl, h1, h2, hz, q⟩ := h
  obtain ⟨t, rfl⟩ := rx
  obtain ⟨t2, rfl⟩ := ry
  have hr : (decide (k < -(2 ^ 63 : Int)) || decide (k ≥ 2 ^ 63)) = false := by
    rw [decide_eq_false (by omega), decide_eq_false (by omega)]
    rfl
  have hcap : ¬ k < 1 → ¬ ((z.length : Int) > (2 ^ 63 - 1) / k) := fun hk hgt => by
    have hk1 : 0 < k := by omega
    have e1 : (z.length : Int) * k ≤ sizeLine := by
      have : ((z.cps.size * k.toNat : Nat) : Int) ≤ (sizeLine : Nat) := Int.ofNat_le.mpr hz
      rw [Int.natCast_mul, Int.toNat_of_nonneg (by omega)] at this
      exact this
    have e2 : (z.length : Int) ≤ (2 ^ 63 - 1) / k := (Int.le_ediv_iff_mul_le hk1).mpr (Int.le_trans e1 (by decide))
    omega
  have hlong : Builtin.Str.tooLong (z.length * k.toNat) = false := by
    unfold Builtin.Str.tooLong
    exact decide_eq_false (Nat.not_lt.mpr hz)
  refine PySem.P.mul_str hr (fun hk _ => hcap hk) (fun _ _ => hlong) ?_
  have fin : ∀ (w : Str) (tk : Tok) (t' : Nat), w = ⟨(List.replicate k.toNat z.cps.toList).flatten.toArray⟩ → EP X pins σ Q (.str w tk) { s with toks := t' } := fun w tk t' e => by
    subst e
    exact ⟨.str _, H, I.tok _, ⟨_, rfl⟩, q⟩
  by_cases hk : k < 1
  · rw [if_pos hk]
    have : k.toNat = 0 := by omega
    exact ⟨by decide, fin _ _ _ (by rw [this]; rfl)⟩
  rw [if_neg hk]
  by_cases hq : (k == 1 || z.length == 0) = true
  · rw [if_pos hq]
    refine fin z t s.toks ?_
    obtain ⟨⟨l⟩⟩ := z
    rcases Bool.or_eq_true_iff.mp hq with h | h
    · have : k = 1 := eq_of_beq h
      subst this
      simp
    · have : l = [] := by
        have h : l.length = 0 := eq_of_beq h
        exact List.eq_nil_of_length_eq_zero h
      subst this
      simp
  · rw [if_neg hq]
    have e : List.foldl (fun x1 x2 => x1 ++ x2) #[] (List.replicate k.toNat z.cps) = (List.replicate k.toNat z.cps.toList).flatten.toArray := by rw [foldl_repA]; simp
    rw [e]
    refine ⟨?_, fin _ _ _ rfl⟩
    show ((List.replicate k.toNat z.cps.toList).flatten.toArray).size ≤ sizeLine
    rw [List.size_toArray, repN_rep, repN_len, Array.length_toList]
    exact hz
def repS : D → D → Option D
  | .str x, .int k => if -9223372036854775808 ≤ k ∧ k < 9223372036854775808 ∧ x.length * k.toNat ≤ lim then some (.str (repN x k.toNat)) else none
  | _, _ => none
theorem v_repS {c : Cn} : VOp2 c rRepS repS := by
  intro H0 H x y dx dy dz Q s e hx hy o
  match dx, dy, e with
  | .str a, .int k, e =>
    obtain ⟨rfl, h1⟩ := hx
    have hy : y = .int k := hy
    subst hy
    have e : (if -9223372036854775808 ≤ k ∧ k < 9223372036854775808 ∧ a.length * k.toNat ≤ lim then some (D.str (repN a k.toNat)) else none) = some dz := e
    by_cases hl : -9223372036854775808 ≤ k ∧ k < 9223372036854775808 ∧ a.length * k.toNat ≤ lim
    case neg =>
      rw [if_neg hl] at e
      cases e
    rw [if_pos hl] at e
    cases e
    refine ⟨sS a, k, rfl, rfl, by omega, by omega, by rw [sizeLine_lim]; simpa [sS] using hl.2.2, ?_⟩
    have := o.str (by rw [repN_len]; exact hl.2.2)
    have e2 : (⟨(List.replicate k.toNat (sS a).cps.toList).flatten.toArray⟩ : Str) = sS (repN a k.toNat) := by
      rw [repN_rep]
      simp [sS]
    rw [e2]
    exact this
/-! ### list(text), tuple(list) -/
def rListStr : List V → Hp → VK → Prop := fun xs H Q => ∃ z : Str, xs = [.str z] ∧ z.cps.size ≤ sizeLine ∧ ∀ p, H p = none → Q (.ref p) (upd H p (.lst ((chrs z).map V.str)))
/-! ### min -/
theorem strs_ints : ∀ {ns : List Int} {c : Cn} {H : Hp} {vs : List V}, Dats c H (ns.map D.int) vs → vs = ns.map V.int
  | [], _, _, _, h => h
  | n :: ns, _, _, _, ⟨v, r, h1, h2, h3⟩ => by
    have h2 : v = .int n := h2
    rw [h1, h2, strs_ints h3]
    rfl
def intsOf : List D → Option (List Int)
  | [] => some []
  | .int i :: r => (intsOf r).map (i :: ·)
  | _ :: _ => none
theorem intsOf_map : ∀ {l : List D} {ns : List Int}, intsOf l = some ns → l = ns.map D.int
  | [], _, h => by cases h; rfl
  | d :: r, ns, h => by
    cases d with
    | int i =>
      obtain ⟨m, h1, h2⟩ := Option.map_eq_some_iff.mp (show (intsOf r).map (i :: ·) = some ns from h)
      subst h2
      rw [intsOf_map h1]
      rfl
    | _ => cases h
def minI : List Int → Int
  | [] => 0
  | [i] => i
  | i :: r => if i ≤ minI r then i else minI r
theorem minI_mem : ∀ (ns : List Int), ns ≠ [] → minI ns ∈ ns
  | [], h => absurd rfl h
  | [i], _ => by simp [minI]
  | i :: j :: r, _ => by
    have := minI_mem (j :: r) (by simp)
    unfold minI
    split
    · exact List.mem_cons_self ..
    · exact List.mem_cons_of_mem _ this
theorem minI_le : ∀ (ns : List Int) (y : Int), y ∈ ns → minI ns ≤ y
  | [], _, h => by cases h
  | [i], y, h => by
    have : y = i := by simpa using h
    subst this
    exact Int.le_refl _
  | i :: j :: r, y, h => by
    unfold minI
    rcases List.mem_cons.mp h with e | h
    · subst e
      split <;> omega
    · have := minI_le (j :: r) y h
      split <;> omega
def minLD : List D → Option D
  | [.lst l] => match intsOf l with
    | some (i :: r) => some (.int (minI (i :: r)))
    | _ => none
  | _ => none
theorem b_minL {c : Cn} : CB c (rMin c.K) minLD := by
  intro H0 H xs ds dz Q s e h o
  match ds, e with
  | [.lst l], e =>
    have e : (match intsOf l with
      | some (i :: r) => some (D.int (minI (i :: r)))
      | _ => none) = some dz := e
    cases q : intsOf l with
    | none => rw [q] at e; cases e
    | some ns =>
      cases ns with
      | nil => rw [q] at e; cases e
      | cons i r =>
        rw [q] at e
        cases e
        obtain ⟨v, rfl, h1⟩ := h.one
        obtain ⟨_, a, vs, rfl, h2, h3⟩ := h1
        have el := intsOf_map q
        subst el
        have ev := strs_ints h3
        subst ev
        refine ⟨a, i :: r, rfl, h2, by simp, fun m hm hle => ?_⟩
        have : m = minI (i :: r) := by
          have h1 := hle _ (minI_mem (i :: r) (by simp))
          have h2 := minI_le (i :: r) m hm
          omega
        subst this
        exact o.int
/-! ### d.get(k, x), d.get(k) -/
theorem lookK_none {c : Cn} {H : Hp} {q : Ky} : ∀ {l : List (Ky × D)} {kvs : List (Key × V)}, DatK c H l kvs → lookK l q = none → valV kvs (kyK q) = none
  | [], kvs, h, e => by
    have h : kvs = [] := h
    subst h
    rfl
  | (k, d') :: r, _, ⟨v, s, h1, h2, h3⟩, e => by
    subst h1
    have e : (if q = k then some d' else lookK r q) = none := e
    by_cases z : q = k
    · rw [if_pos z] at e
      cases e
    · rw [if_neg z] at e
      exact (valV_neg fun y => z (kyK_inj y).symm).trans (lookK_none h3 e)
def smpD : D → Bool
  | .non | .bl _ | .int _ | .str _ => true
  | _ => false
theorem Dat1.smp {c : Cn} {H0 H : Hp} {d : D} {v : V} (h : smpD d = true) (x : Dat1 c H0 H d v) : Dat c H0 d v := by
  cases d with
  | non => exact x
  | bl b => exact x
  | int i => exact x
  | str l => exact x
  | _ => cases h
def getD (l : List (Ky × D)) (k z : D) : Option D := match keyD k with
  | some q => (match lookK l q with
    | some d => some d
    | none => if smpD z = true then some z else none)
  | none => none
/-- the object must be a dict when it is reached -/
def mGet2 (a b f : M R) : M R := fun e => andThen (a e) fun r e1 => match peek r e1 with
  | some (.dct _) => andThen (b e1) fun q e2 => andThen (f e2) fun p e3 => ofO (peek (nrm r) e3) fun x => ofO (peek (nrm q) e3) fun y => ofO (peek p e3) fun z => (match x with
    | .dct l => ofO (getD l y z) fun w => .ok (.d w) e3
    | _ => .bad)
  | _ => .bad
theorem peek_nrm {r : R} {e : Env} {l : List (Ky × D)} (h : peek r e = some (.dct l)) : peek (nrm r) e = some (.dct l) := by
  cases r with
  | d x => exact h
  | sl i => exact h
  | ow o =>
    have h : o.pk = some (.dct l) := h
    cases o with
    | sh d => cases h; rfl
    | fl m => cases h
    | fd m => cases h; rfl
    | fo k m => cases h
theorem rd_isD {H : Hp} {a : Addr} {kvs : List (Key × V)} (h : Rd H a (.dK kvs)) : IsD H a := .inl ⟨kvs, h⟩
section
variable {X : Cx} {t : Tb} {W : WX} {a b f : Expr} {ma mb mf : M R} {apos cpos : Pos}
theorem se_get2 (hu : X.A.units + 1 < cLine) (ha : SE X t W a ma) (hb : SE X t W b mb) (hf : SE X t W f mf) (m : M2 X a "get" apos b f cpos) : SE X t W (.Call (.Attribute a "get" apos) [b, f] [] cpos) (mGet2 ma mb mf) := by
  refine PE.imp (pe_dget2 hu ha hb hf m) fun σ H Q q => ?_
  obtain ⟨e, H0, Fr, as, rp, po⟩ := q
  refine ⟨e, H0, Fr, as, rp, po.bind fun ra e1 v H1 H' s rr po => ?_⟩
  split at po
  · rename_i l0 q0
    obtain ⟨H2, as, s2, rp, kp⟩ := RpR.keep rr
    obtain ⟨_, p0, kvs0, rfl, h2, _⟩ := kp.peek rp (peek_nrm q0)
    refine ⟨p0, rfl, rd_isD h2, e1, H2, Fr, as, rp, (po.mono s2).bind fun rb e2 w H3 H'' s3 rr2 po => ?_⟩
    obtain ⟨H4, as, s4, rp, kp2⟩ := RpR.keep rr2
    refine ⟨e2, H4, Fr, as, rp, (po.mono s4).bind fun rf e3 u H5 H3'' s5 rr3 po => ?_⟩
    obtain ⟨dx, q1, po⟩ := po.ofO
    obtain ⟨dy, q2, po⟩ := po.ofO
    obtain ⟨dz, q3, po⟩ := po.ofO
    obtain ⟨H6, as, s6, rp, hd⟩ := RpR.peek rr3 q3
    · obtain ⟨l, rfl⟩ : ∃ l, dx = .dct l := by cases dx <;> first | exact ⟨_, rfl⟩ | exact po.elim
      obtain ⟨dw, q4, po⟩ := po.ofO
      obtain ⟨_, p1, kvs, e5, h5, h6⟩ := (kp.mono (s3.trans (s4.trans (s5.trans s6)))).peek rp q1
      cases e5
      have hk := (kp2.mono (s5.trans s6)).peek rp q2
      unfold getD at q4
      cases qk : keyD dy with
      | none => rw [qk] at q4; cases q4
      | some ky =>
        rw [qk] at q4
        have ek := keyD_kV qk hk
        have q4 : (match lookK l ky with
          | some d => some d
          | none => if smpD dz = true then some dz else none) = some dw := q4
        cases ql : lookK l ky with
        | some d =>
          rw [ql] at q4
          cases q4
          obtain ⟨w2, h7, h8⟩ := lookK_val h6 ql
          refine ⟨some w2, .inl ⟨kvs, _, h5, ek, h7.symm⟩, ?_⟩
          exact ((po.mono s6).out rp).1 w2 h8
        | none =>
          rw [ql] at q4
          by_cases hz : smpD dz = true
          case neg => rw [if_neg hz] at q4; cases q4
          rw [if_pos hz] at q4
          cases q4
          refine ⟨none, .inl ⟨kvs, _, h5, ek, (lookK_none h6 ql).symm⟩, ?_⟩
          exact ((po.mono s6).out rp).1 u (hd.smp hz)
  · exact po.elim
/-! ### a written table's get -/
/-- the table with keys that it has not -/
structure KTabM (X : Cx) (t : Tb) (a : Addr) (l : List (List Nat × D)) (ms : List (List Nat)) : Prop where
  kd : ∃ es n, KDict X.K X.w a es n
  has : ∀ (x : List Nat) (d : D), l.lookup x = some d → ∃ u0 v0, PySem.W.nsIn X.K a (sS x) = some (some u0) ∧ RelV v0 u0 ∧ ∀ H, Dat (cn X t) H d v0
  mis : ∀ x, ms.contains x = true → PySem.W.nsIn X.K a (sS x) = some none
end
end F
end

section
set_option Elab.async false
set_option linter.all false
set_option autoImplicit false
set_option maxRecDepth 100000
set_option maxHeartbeats 2000000
/-! F layer: list(text), tuple(list), repr of data with dicts. -/
namespace F
open PySem PySem.Spec PyProof.Rows L2
theorem call_listS {X : Cx} (hc : X.calm = true) : CallR X (.type "list") rListStr := by
  intro pins s σ H xs us Q I r h
  obtain ⟨z, rfl, hl, q⟩ := h
  obtain ⟨u, rfl, rx⟩ := r.one
  obtain ⟨t, rfl⟩ := rx
  refine call_list_str (I.ok.hd hc) z t (fun h' tk acc' c' hk hS hacc => ?_) hl
  have hS' : StrsAre acc'.toList (chrs z) := strs_items acc' z hacc
  refine ⟨.ref s.heap.objs.size, upd H s.heap.objs.size (.lst ((chrs z).map V.str)), I.laid hk (Nat.le_refl _) (show ObjOk X.prog X.w _ _ _ (.lst ((chrs z).map V.str)) from ⟨?_, acc'.toList, c', vals_of_strs hS', ?_⟩), rfl, q _ (I.hok.fresh (Nat.le_refl _))⟩
  · rw [List.length_map]
    have : (chrs z).length = z.cps.size := by simp [chrs]
    rw [this]
    exact hl
  · rw [Array.toArray_toList]; exact hS
def chsD (x : List Nat) : List D := x.map fun k => .str [k]
def listSD : List D → Option (List D)
  | [.str x] => some (chsD x)
  | _ => none
theorem chsD_dats {c : Cn} {H : Hp} : ∀ x : List Nat, Dats c H (chsD x) ((x.map mkC).map V.str)
  | [] => rfl
  | a :: l => ⟨.str (mkC a), _, rfl, ⟨rfl, by show 1 ≤ lim; decide⟩, chsD_dats l⟩
theorem b_listS {c : Cn} : CBl c rListStr listSD := by
  intro H0 H xs ds l Q s e h nl
  match ds, e with
  | [.str x], e =>
    cases e
    obtain ⟨v, rfl, rfl, hl⟩ := h.one
    refine ⟨sS x, rfl, by rw [sizeLine_lim]; simpa [sS] using hl, fun p hp => ?_⟩
    exact nl p _ hp (by unfold chsD; rw [List.length_map]; exact hl) (chsD_dats x)
def tupLD : List D → Option D
  | [.lst l] => some (.tup l)
  | _ => none
def rTupOf (K : PySem.W.Frag) : List V → Hp → VK → Prop := fun xs H Q => ∃ p ys, xs = [.ref p] ∧ ((SqL K H p ys ∧ ∀ l, H l = none → Q (.ref l) (upd H l (.tup ys))) ∨ (SqT K H p ys ∧ Q (.ref p) H))
theorem b_tupL {c : Cn} : CB c (rTupOf c.K) tupLD := by
  intro H0 H xs ds dz Q s e h o
  match ds, e with
  | [.lst l], e =>
    cases e
    obtain ⟨v, rfl, h1⟩ := h.one
    obtain ⟨hl, a, vs, rfl, h2, h3⟩ := h1
    refine ⟨a, vs, rfl, .inl ⟨h2, fun p hp => o.2 p _ hp ?_⟩⟩
    have h0 : H0 p = none := by
      cases q : H0 p with
      | none => rfl
      | some y =>
        rw [s p y q] at hp
        cases hp
    exact ⟨hl, p, vs, rfl, .inl (.inl upd_same), Dats.mono (fun b o e => by rw [upd_ne (ne_of_none e h0)]; exact e) _ _ h3⟩
/-! ### repr -/
def kyP : Ky → PyData
  | .i n => .int n
  | .s x => .str (sS x)
mutual
def D.pz : D → Option PyData
  | .non => some .none
  | .bl b => some (.bool b)
  | .int i => some (.int i)
  | .str x => some (.str (sS x))
  | .tup l => (pzs l).map .tuple
  | .lst l => (pzs l).map .list
  | .dct l => (pzk l).map .dict
  | _ => none
def pzs : List D → Option (List PyData)
  | [] => some []
  | d :: ds => match d.pz, pzs ds with
    | some p, some ps => some (p :: ps)
    | _, _ => none
def pzk : List (Ky × D) → Option (List (PyData × PyData))
  | [] => some []
  | (k, d) :: ds => match d.pz, pzk ds with
    | some p, some ps => some ((kyP k, p) :: ps)
    | _, _ => none
end
mutual
/-- no list in it -/
def D.nol : D → Bool
  | .lst _ => false
  | .tup l => nols l
  | .dct l => nolk l
  | _ => true
def nols : List D → Bool
  | [] => true
  | d :: ds => d.nol && nols ds
def nolk : List (Ky × D) → Bool
  | [] => true
  | (_, d) :: ds => d.nol && nolk ds
end
mutual
/-- no dict in it -/
def D.nod : D → Bool
  | .dct _ => false
  | .tup l => nods l
  | .lst l => nods l
  | _ => true
def nods : List D → Bool
  | [] => true
  | d :: ds => d.nod && nods ds
end
mutual
theorem pz_noDict : ∀ (d : D) (p : PyData), d.pz = some p → d.nod = true → p.hasDict = false
  | .non, _, h, _ => by cases h; simp only [PyData.hasDict]
  | .bl _, _, h, _ => by cases h; simp only [PyData.hasDict]
  | .int _, _, h, _ => by cases h; simp only [PyData.hasDict]
  | .str _, _, h, _ => by cases h; simp only [PyData.hasDict]
  | .tup l, p, h, n => by
    obtain ⟨ps, h1, rfl⟩ := Option.map_eq_some_iff.mp (show (pzs l).map PyData.tuple = some p from h)
    simp only [PyData.hasDict]
    exact pzs_noDict l ps h1 n
  | .lst l, p, h, n => by
    obtain ⟨ps, h1, rfl⟩ := Option.map_eq_some_iff.mp (show (pzs l).map PyData.list = some p from h)
    simp only [PyData.hasDict]
    exact pzs_noDict l ps h1 n
  | .dct _, _, _, n => by cases n
  | .obj _ _, _, h, _ => by cases h
  | .ex _ _, _, h, _ => by cases h
theorem pzs_noDict : ∀ (l : List D) (ps : List PyData), pzs l = some ps → nods l = true → PyData.hasDictAll ps = false
  | [], ps, h, _ => by cases h; simp only [PyData.hasDictAll]
  | d :: ds, ps, h, n => by
    have h : (match d.pz, pzs ds with
      | some p, some ps => some (p :: ps)
      | _, _ => none) = some ps := h
    obtain ⟨n1, n2⟩ := bAnd (show (d.nod && nods ds) = true from n)
    cases q1 : d.pz with
    | none => rw [q1] at h; cases h
    | some p =>
      cases q2 : pzs ds with
      | none => rw [q1, q2] at h; cases h
      | some qs =>
        rw [q1, q2] at h
        cases h
        simp only [PyData.hasDictAll, pz_noDict d p q1 n1, pzs_noDict ds qs q2 n2, Bool.or_false]
end
section
variable {X : Cx} {t : Tb} {pins : List (Addr × Obj)} {σ : L2.St} {H : Hp} {s : Shared}
theorem keyIs_reads {h : Heap} {k : Ky} {v : Value} (e : keyIs (kyK k) v = true) : Reads h v (kyP k) [] := by
  rcases keyIs_shape e with ⟨i, t, h1, rfl⟩ | ⟨x, t, h1, rfl⟩
  · cases k with
    | i n => cases h1; exact .int _ t
    | s y => cases h1
  · cases k with
    | i n => cases h1
    | s y => cases h1; exact .str _ t
mutual
theorem readz (I : Inv X pins σ H s) : ∀ (d : D) (p : PyData) (v : V) (u : Value), d.pz = some p → Dat (cn X t) H d v → RelV v u → ∃ as, Reads s.heap u p as ∧ (d.nol = true → sysModules ∉ as)
  | .non, _, _, _, h, e, r => by
    cases h
    cases e
    cases r
    exact ⟨_, .none, fun _ => by simp⟩
  | .bl b, _, _, _, h, e, r => by
    cases h
    cases e
    cases r
    exact ⟨_, .bool b, fun _ => by simp⟩
  | .int i, _, _, _, h, e, r => by
    cases h
    cases e
    obtain ⟨tk, rfl⟩ := r
    exact ⟨_, .int i tk, fun _ => by simp⟩
  | .str x, _, _, _, h, ⟨e, _⟩, r => by
    cases h
    cases e
    obtain ⟨tk, rfl⟩ := r
    exact ⟨_, .str _ tk, fun _ => by simp⟩
  | .tup l, p, _, _, h, ⟨_, a, vs, e, h2, h3⟩, r => by
    obtain ⟨ps, h1, rfl⟩ := Option.map_eq_some_iff.mp (show (pzs l).map PyData.tuple = some p from h)
    subst e
    cases r
    obtain ⟨its, rv, ⟨o, ho, hc, n, hd⟩, _⟩ := I.tuple h2
    obtain ⟨as, ra, na⟩ := readzs I l ps vs its h1 h3 rv
    exact ⟨_, .tuple ho hc hd (by simpa using ra), na⟩
  | .lst l, p, _, _, h, ⟨_, a, vs, e, h2, h3⟩, r => by
    obtain ⟨ps, h1, rfl⟩ := Option.map_eq_some_iff.mp (show (pzs l).map PyData.list = some p from h)
    subst e
    cases r
    obtain ⟨its, rv, ⟨o, n, ho, hc, _, hd⟩, _⟩ := I.list h2
    obtain ⟨as, ra, _⟩ := readzs I l ps vs its h1 h3 rv
    exact ⟨_, .list ho hc hd (by simpa using ra), fun z => by cases z⟩
  | .dct l, p, _, _, h, ⟨_, a, kvs, e, h2, h3⟩, r => by
    obtain ⟨ps, h1, rfl⟩ := Option.map_eq_some_iff.mp (show (pzk l).map PyData.dict = some p from h)
    subst e
    cases r
    obtain ⟨z, lo, vs, rk, o, es, ep, ho, hx, hd, hk, hp, _⟩ := dk_rd I.hok h2
    obtain ⟨bs, r1, r2, nb⟩ := readzk I l ps kvs vs es.toList h1 h3 rk hp
    refine ⟨_, .dict ho hx.1 hd (as := []) r1 r2, fun z => ?_⟩
    simp only [List.cons_append, List.nil_append, List.mem_cons, not_or]
    exact ⟨fun e => by rw [← e] at lo; simp at lo, nb z⟩
  | .obj _ _, _, _, _, h, _, _ => by cases h
  | .ex _ _, _, _, _, h, _, _ => by cases h
theorem readzs (I : Inv X pins σ H s) : ∀ (l : List D) (ps : List PyData) (vs : List V) (us : List Value), pzs l = some ps → Dats (cn X t) H l vs → Vals vs us → ∃ as, ReadsAll s.heap us ps as ∧ (nols l = true → sysModules ∉ as)
  | [], ps, vs, us, h, e, r => by
    cases h
    have e : vs = [] := e
    subst e
    cases r
    exact ⟨_, .nil, fun _ => by simp⟩
  | d :: ds, ps, vs, us, h, ⟨v, q, e, h2, h3⟩, r => by
    have h : (match d.pz, pzs ds with
      | some p, some ps => some (p :: ps)
      | _, _ => none) = some ps := h
    subst e
    cases q1 : d.pz with
    | none => rw [q1] at h; cases h
    | some p =>
      cases q2 : pzs ds with
      | none => rw [q1, q2] at h; cases h
      | some qs =>
        rw [q1, q2] at h
        cases h
        cases r with
        | cons r1 r2 =>
          obtain ⟨as, ra, na⟩ := readz I d p v _ q1 h2 r1
          obtain ⟨bs, rb, nb⟩ := readzs I ds qs q _ q2 h3 r2
          refine ⟨_, .cons ra rb, fun z => ?_⟩
          obtain ⟨z1, z2⟩ := bAnd (show (d.nol && nols ds) = true from z)
          simp only [List.mem_append, not_or]
          exact ⟨na z1, nb z2⟩
theorem readzk (I : Inv X pins σ H s) : ∀ (l : List (Ky × D)) (ps : List (PyData × PyData)) (kvs : List (Key × V)) (vs : List (Key × Value)) (es : List DictEntry), pzk l = some ps → DatK (cn X t) H l kvs → KV kvs vs → Pairs (mixKind X.prog X.w) es vs →
    ∃ bs, ReadsAll s.heap (es.map (·.key)) (ps.map (·.1)) [] ∧ ReadsAll s.heap (es.map (·.val)) (ps.map (·.2)) bs ∧ (nolk l = true → sysModules ∉ bs)
  | [], ps, kvs, vs, es, h, e, r, pr => by
    cases h
    have e : kvs = [] := e
    subst e
    cases r
    cases pr
    exact ⟨[], .nil, .nil, fun _ => by simp⟩
  | (k, d) :: ds, ps, kvs, vs, es, h, ⟨v, q, e, h2, h3⟩, r, pr => by
    have h : (match d.pz, pzk ds with
      | some p, some ps => some ((kyP k, p) :: ps)
      | _, _ => none) = some ps := h
    subst e
    cases q1 : d.pz with
    | none => rw [q1] at h; cases h
    | some p =>
      cases q2 : pzk ds with
      | none => rw [q1, q2] at h; cases h
      | some qs =>
        rw [q1, q2] at h
        cases h
        cases r with
        | cons r1 r2 =>
          cases pr with
          | cons p1 p2 p3 =>
            obtain ⟨ek, rv⟩ := r1
            obtain ⟨as, ra, na⟩ := readz I d p v _ q1 h2 rv
            obtain ⟨bs, rb1, rb2, nb⟩ := readzk I ds qs q _ _ q2 h3 r2 p3
            refine ⟨as ++ bs, ?_, ?_, fun z => ?_⟩
            · exact ReadsAll.cons (as := []) (bs := []) (keyIs_reads (by have ek : kyK k = _ := ek; rw [ek]; exact p1)) rb1
            · rw [← p2] at ra
              exact .cons ra rb2
            · obtain ⟨z1, z2⟩ := bAnd (show (d.nol && nolk ds) = true from z)
              simp only [List.mem_append, not_or]
              exact ⟨na z1, nb z2⟩
end
/-- repr(x), x data -/
def rReprZ (c : Cn) : List V → Hp → VK → Prop := fun xs H Q => ∃ (v : V) (d : D) (p : PyData), xs = [v] ∧ Dat c H d v ∧ d.pz = some p ∧ (d.nod = true ∨ d.nol = true) ∧ p.showable = true ∧ p.depth ≤ 50 ∧ p.shown.length ≤ lim ∧ Q (.str p.shown) H
theorem call_reprZ (hu : X.A.guards = some []) (hun : X.A.units + 52 < cLine) : CallR X (.builtin "repr") (rReprZ (cn X t)) := by
  intro pins s σ H xs us Q I r h
  obtain ⟨v, d, p, rfl, hd, hp, hno, hs, hdp, hl, q⟩ := h
  obtain ⟨u, rfl, rv⟩ := r.one
  have hz : p.shown.length ≤ sizeLine := by rw [sizeLine_lim]; exact hl
  obtain ⟨as, rd, nol⟩ := readz I d p v u hp hd rv
  have hsm : p.hasDict = true → sysModules ∉ as := fun z => by
    rcases hno with n | n
    · rw [pz_noDict d p hp n] at z
      cases z
    · exact nol n
  have big : ∀ a : Addr, u = .ref a → wpAny (model X.prog X.w) X.A (call (.builtin "repr") [u]) (EP X pins σ Q) X.xe s := fun a e => by
    subst e
    exact repr_of_reads' rd hs hsm hu (by omega) (fun _ _ e => e) (fun h' u tk hk => ⟨.str p.shown, H, I.kept (t' := tk) hk, ⟨u, rfl⟩, q⟩) hz
  cases rd with
  | none =>
    simp only [PyData.shown] at q
    exact PySem.P.repr_of_none ⟨.str "None", H, I.tok _, ⟨_, rfl⟩, q⟩
  | bool b =>
    simp only [PyData.shown] at q
    exact PySem.P.repr_of_bool ⟨.str (if b then "True" else "False"), H, I.tok _, ⟨_, rfl⟩, q⟩
  | int i tk =>
    simp only [PyData.shown] at q
    simp only [PyData.showable] at hs
    exact PySem.P.repr_of_int (of_decide_eq_true hs) ⟨.str (toString i), H, I.tok _, ⟨_, rfl⟩, q⟩
  | str x tk =>
    simp only [PyData.shown] at q hz
    exact PySem.P.repr_of_str ⟨.str (reprText x), H, I.tok _, ⟨_, rfl⟩, q⟩ hz
  | list _ _ _ _ => exact big _ rfl
  | tuple _ _ _ _ => exact big _ rfl
  | dict _ _ _ _ _ => exact big _ rfl
def reprZ : List D → Option D
  | [d] => match d.pz with
    | some p => if (d.nod || d.nol) = true ∧ p.showable = true ∧ p.depth ≤ 50 ∧ p.shown.cps.toList.length ≤ lim then some (.str p.shown.cps.toList) else none
    | none => none
  | _ => none
theorem b_reprZ {c : Cn} : CB c (rReprZ c) reprZ := by
  intro H0 H xs ds dz Q s e h o
  match ds, e with
  | [d], e =>
    have e : (match d.pz with
      | some p => if (d.nod || d.nol) = true ∧ p.showable = true ∧ p.depth ≤ 50 ∧ p.shown.cps.toList.length ≤ lim then some (.str p.shown.cps.toList) else none
      | none => none) = some dz := e
    cases q0 : d.pz with
    | none => rw [q0] at e; cases e
    | some p =>
      rw [q0] at e
      have e : (if (d.nod || d.nol) = true ∧ p.showable = true ∧ p.depth ≤ 50 ∧ p.shown.cps.toList.length ≤ lim then some (D.str p.shown.cps.toList) else none) = some dz := e
      by_cases z : (d.nod || d.nol) = true ∧ p.showable = true ∧ p.depth ≤ 50 ∧ p.shown.cps.toList.length ≤ lim
      case neg => rw [if_neg z] at e; cases e
      rw [if_pos z] at e
      cases e
      obtain ⟨v, rfl, h1⟩ := h.one
      have es : sS p.shown.cps.toList = p.shown := by unfold sS; rw [Array.toArray_toList]
      refine ⟨v, d, p, rfl, Dat1.dat s h1, q0, Bool.or_eq_true_iff.mp z.1, z.2.1, z.2.2.1, by have := z.2.2.2; simpa [Str.length] using this, ?_⟩
      rw [← es]
      exact o.str z.2.2.2
end
end F
end

section
set_option Elab.async false
set_option linter.all false
set_option autoImplicit false
set_option maxRecDepth 100000
set_option maxHeartbeats 2000000
/-! F layer: several except clauses, each with or without a name. -/
namespace F
open PySem PySem.Spec PyProof.Rows L2
/-- what the clauses wish of an exception of the body, one after the other; some i: the slot of the clause's name -/
def wClauses (K : PySem.W.Frag) (Wout : WX) (D : Ends) : List (Value × Option Nat × (Addr → Value → Option Addr → TS)) → WX
  | [] => Wout
  | (c, none, ts) :: r => fun cls d σ H => ∃ b, PySem.W.exmOne K cls c = some b ∧ (b = true → ∀ a, H a = none → ts a cls d D σ H) ∧ (b = false → wClauses K Wout D r cls d σ H)
  | (c, some i, ts) :: r => fun cls d σ H => ∃ b, PySem.W.exmOne K cls c = some b ∧ (b = true → ∀ a, H a = none → ts a cls d { nx := fun σ' H' => D.nx (σ'.set i none) H', rt := D.rt, bk := fun σ' H' => D.bk (σ'.set i none) H', ct := fun σ' H' => D.ct (σ'.set i none) H' } (σ.set i (some (.ref a))) H) ∧
    (b = false → wClauses K Wout D r cls d σ H)
inductive ClausesOk (X : Cx) : List ExceptHandler → List (Value × Option Nat × (Addr → Value → Option Addr → TS)) → Prop
  | nil : ClausesOk X [] []
  | bare {x : Str} {c : Value} {ts : Addr → Value → Option Addr → TS} {b₀ : Stmt} {suite : List Stmt} {np pos' : Pos} {hds : List ExceptHandler} {l : List (Value × Option Nat × (Addr → Value → Option Addr → TS))} (hc : Names X x c)
      (hsu : ∀ (a : Addr) (oe : Obj) (cls : Value) (d : Option Addr) (pn : List (Addr × Obj)), Zc cls d oe → (∃ vs, oe.data = .fields vs) → PSs (X.suite a ((a, oe) :: pn)) (b₀ :: suite) (ts a cls d)) (r : ClausesOk X hds l) :
      ClausesOk X (.ExceptHandler (some (.Name x np)) none (b₀ :: suite) pos' :: hds) ((c, none, ts) :: l)
  | named {x n : Str} {i : Nat} {c : Value} {ts : Addr → Value → Option Addr → TS} {b₀ : Stmt} {suite : List Stmt} {np pos' : Pos} {hds : List ExceptHandler} {l : List (Value × Option Nat × (Addr → Value → Option Addr → TS))} (hc : Names X x c) (hi : X.N[i]? = some n) (hln : X.env.kindOf n = some .local)
      (hsu : ∀ (a : Addr) (oe : Obj) (cls : Value) (d : Option Addr) (pn : List (Addr × Obj)), Zc cls d oe → (∃ vs, oe.data = .fields vs) → PSs (X.suite a ((a, oe) :: pn)) (b₀ :: suite) (ts a cls d)) (r : ClausesOk X hds l) :
      ClausesOk X (.ExceptHandler (some (.Name x np)) (some n) (b₀ :: suite) pos' :: hds) ((c, some i, ts) :: l)
section
variable {X : Cx} {body : List Stmt} {h₀ : ExceptHandler} {hds : List ExceptHandler} {l : List (Value × Option Nat × (Addr → Value → Option Addr → TS))} {pos : Pos} {tb : WX → TS} {Wout : WX}
theorem ps_try_all (hs : X.stack = X.env :: X.outer) (hf : X.env.frame = some X.env.locals) (hN : X.N.Nodup) (tk : Takes X Wout)
    (hb : ∀ (W : WX) (pn : List (Addr × Obj)) (xe : Value → Shared → Prop), Takes (X.tr pn xe) W → PassesOwn (model X.prog X.w) X.A X.env xe → PSs (X.tr pn xe) body (tb W))
    (hh : ClausesOk X (h₀ :: hds) l) : PS X (.Try body (h₀ :: hds) [] [] pos) (fun D σ H => tb (wClauses X.K Wout D l) D σ H) := by
  refine ⟨fun pins s σ H D I h => ?_⟩
  have ok := I.ok
  have live : X.A.frames = some (X.env :: X.outer) := ok.frames.trans (congrArg some hs)
  refine wpAny_Try_except (wpAny_mono ((hb (wClauses X.K Wout D l) (X.pn ++ pins) (fun e s₁ => wpAny (model X.prog X.w) X.A (noteFrame e X.env) (fun _ s₂ => wpAny (model X.prog X.w) X.A (setFlight e none) (fun _ s₃ =>
    wpAny (model X.prog X.w) X.A (handleBy e X.env (h₀ :: hds)) (SP X pins D) X.xe s₃) X.xe s₂) X.xe s₁) (fun u s' got => ?_) PassesOwn.looking).run [] s σ H D (I.toTry _) h) (fun fl s1 got => ?_) fun e s1 got => got)
  · obtain ⟨a, B, sI, _, σ', H', cls, d, rfl, J0, fresh, grow, sky, na, sameOs, sameGens, w⟩ := got
    have J : Inv X pins σ' H' sI := J0.ofTry ok
    show wpAny (model X.prog X.w) X.A (noteFrame (.ref a) X.env) _ _ _
    refine Sky.land Zc.steady live hf (show Sky B (X.env :: X.outer) a (Zc cls d) X.env.locals s'.heap by rw [← hs]; exact sky) fun h3 fl3 grow3 => ?_
    have J3 : Inv X pins σ' H' { s' with heap := h3 } := J.landed fresh fl3.1 (grow.trans grow3) sameOs sameGens
    obtain ⟨oe3, vs3, at3, z3, dat3⟩ := fl3.there
    have noFrame : a ∉ frs (X.env :: X.outer) := fun mem => by
      obtain ⟨_, o2, at2, bad⟩ := fl3.2.2.1.mem mem
      cases at3.symm.trans at2
      exact bad _ dat3
    have nL : a ≠ X.env.locals := fun z => noFrame (List.mem_filterMap.mpr ⟨X.env, List.mem_cons_self, by rw [hf, z]⟩)
    have nF : a ∉ X.fs := fun mem => by
      obtain ⟨en, he, q⟩ := List.mem_filterMap.mp mem
      exact noFrame (List.mem_filterMap.mpr ⟨en, List.mem_cons_of_mem _ he, q⟩)
    have S3 := J3.suite at3 dat3 na nL nF
    have ask : ∀ {x : Str} {c : Value} {np : Pos} {b : Bool}, Names X x c → PySem.W.exmOne X.K cls c = some b → ∀ {Q : Value → Shared → Prop} {E : Value → Shared → Prop}, Q c { s' with heap := h3 } → wpAny (model X.prog X.w) (X.A.mark (some (.ref a))) (eval (.Name x np) X.env) Q E { s' with heap := h3 } := by
      intro x c np b hc _ Q E q
      rcases hc with ⟨glo, nodbg, there | ⟨off, bi, nn⟩⟩
      · exact ld_glob (X := X.suite a ((a, oe3) :: (X.pn ++ pins))) S3 glo there q nodbg
      · exact ld_blt (X := X.suite a ((a, oe3) :: (X.pn ++ pins))) S3 glo off bi q nn nodbg
    have LT : PySem.W.Looks (model X.prog X.w) h3 (typeOf (.ref a)) cls := fun A Q E s1 keeps q => wpAny_typeOf_ref (keeps _ _ at3) (by rw [z3.1]; exact q)
    -- no clause is left
    have out : Wout cls d σ' H' → wpAny (model X.prog X.w) X.A (handleBy (.ref a) X.env []) (SP X pins D) X.xe { s' with heap := h3 } := fun w => by
      refine wpAny_handleBy_nil ?_
      obtain ⟨_, _, _, oe, vs, T, oT, _, he, _, hd, h1, _⟩ := id fl3
      unfold PySem.passOn
      refine wpAny_bind (wpAny_field he hd h1 ?_)
      rw [if_neg (by simp : ¬ ((Value.ref T == Value.none) = true))]
      have fin : wpAny (model X.prog X.w) X.A (setFlight (.ref a) X.env.frame) (fun _ s4 => wpAny (model X.prog X.w) X.A (throw (.ref a) : Sem Flow) (SP X pins D) X.xe s4) X.xe { s' with heap := h3 } := by
        rw [hf]
        exact HandSPX.setFlight_upZ fl3 fun h4 hh4 grow4 => wpAny_throw (tk _ _ ⟨a, B, sI, pins, σ', H', cls, d, rfl, J, fresh, (grow.trans grow3).trans grow4, .inr (.inr (by rw [hs]; exact hh4)), na, sameOs, sameGens, w⟩)
      first
        | exact wpAny_bind (wpAny_pure (wpAny_bind fin))
        | exact wpAny_bind fin
    have go : ∀ {hds' : List ExceptHandler} {l' : List (Value × Option Nat × (Addr → Value → Option Addr → TS))}, ClausesOk X hds' l' → wClauses X.K Wout D l' cls d σ' H' →
        wpAny (model X.prog X.w) X.A (handleBy (.ref a) X.env hds') (SP X pins D) X.xe { s' with heap := h3 } := by
      intro hds' l' hk
      induction hk with
      | nil => exact out
      | bare hc hsu r ih =>
        rintro ⟨b, e1, yes, no⟩
        refine wpAny_handleBy_cons (codeAny_handlers_test (ask hc e1 ((PySem.W.exm_one J3.kIn LT e1).here ?_))) (by intro q; cases q)
        cases b with
        | false => exact ih (no rfl)
        | true =>
          refine codeAny_handlers_suite (HandSPX.lands_againZ fl3 fun h4 fl4 grow4 => ?_)
          have J4 : Inv X pins σ' H' { s' with heap := h4 } := J.landed fresh fl4.1 ((grow.trans grow3).trans grow4) sameOs sameGens
          obtain ⟨oe4, vs4, at4, z4, dat4⟩ := fl4.there
          refine wpAny_mono ((hsu a oe4 cls d (X.pn ++ pins) z4 ⟨_, dat4⟩).run [] _ _ H' _ (J4.suite at4 dat4 na nL nF) (yes rfl a na)) (fun fl s6 got => ?_) fun _ _ z => False.elim z
          match fl, got with
          | .next, ⟨_, _, S6, q6⟩ => exact ⟨_, _, S6.unsuite ok, q6⟩
          | .brk, ⟨_, _, S6, q6⟩ => exact ⟨_, _, S6.unsuite ok, q6⟩
          | .cont, ⟨_, _, S6, q6⟩ => exact ⟨_, _, S6.unsuite ok, q6⟩
          | .ret u, ⟨_, _, _, S6, r6, q6⟩ => exact ⟨_, _, _, S6.unsuite ok, r6, q6⟩
      | @named x n i c ts b₀ suite np pos' hds2 l2 hc hi hln hsu r ih =>
        rintro ⟨b, e1, yes, no⟩
        refine wpAny_handleBy_cons (codeAny_handlers_test (ask hc e1 ((PySem.W.exm_one J3.kIn LT e1).here ?_))) (by intro q; cases q)
        cases b with
        | false => exact ih (no rfl)
        | true =>
          refine codeAny_handlers_suite_as (HandSPX.lands_againZ fl3 fun h4 fl4 grow4 => ?_)
          have J4 : Inv X pins σ' H' { s' with heap := h4 } := J.landed fresh fl4.1 ((grow.trans grow3).trans grow4) sameOs sameGens
          obtain ⟨oe4, vs4, at4, z4, dat4⟩ := fl4.there
          refine store_ok (X := X.suite a ((a, oe4) :: (X.pn ++ pins))) (v := .ref a) (J4.suite at4 dat4 na nL nF) hN hi (.inl hln) rfl (fun s5 S5 => ?_) (.inr hln)
          refine wpAny_mono ((hsu a oe4 cls d (X.pn ++ pins) z4 ⟨_, dat4⟩).run [] s5 _ H' _ S5 (yes rfl a na)) (fun fl s6 got => ?_) fun _ _ z => False.elim z
          have gone : ∀ {σ6 : L2.St} {H6 : Hp} {Q : Shared → Prop}, Inv (X.suite a ((a, oe4) :: (X.pn ++ pins))) [] σ6 H6 s6 → (∀ s7, Inv X pins (σ6.set i none) H6 s7 → Q s7) →
              wpAny (model X.prog X.w) X.A (do bindName X.env n .none; unbindBehindTheSuite X.env n pos') (fun _ s7 => Q s7) X.xe s6 := fun {σ6 H6 Q} S6 hq => gone_ok (S6.unsuite ok) hN hi hln hq
          match fl, got with
          | .next, ⟨_, _, S6, q6⟩ => exact gone S6 fun s7 J7 => ⟨_, _, J7, q6⟩
          | .brk, ⟨_, _, S6, q6⟩ => exact gone S6 fun s7 J7 => ⟨_, _, J7, q6⟩
          | .cont, ⟨_, _, S6, q6⟩ => exact gone S6 fun s7 J7 => ⟨_, _, J7, q6⟩
          | .ret u, ⟨_, _, _, S6, r6, q6⟩ => exact gone S6 fun s7 J7 => ⟨_, _, _, J7, r6, q6⟩
    exact go hh w
  · match fl, got with
    | .next, ⟨σ', H', J', q⟩ => exact wpAny_execs_nil ⟨σ', H', J'.ofTry ok, q⟩
    | .brk, ⟨σ', H', J', q⟩ => exact ⟨σ', H', J'.ofTry ok, q⟩
    | .cont, ⟨σ', H', J', q⟩ => exact ⟨σ', H', J'.ofTry ok, q⟩
    | .ret u, ⟨v, σ', H', J', r, q⟩ => exact ⟨v, σ', H', J'.ofTry ok, r, q⟩
end
end F
end

section
set_option Elab.async false
set_option linter.all false
set_option autoImplicit false
set_option maxRecDepth 100000
set_option maxHeartbeats 2000000
/-! F layer: try with several clauses, as plain functions; what a def that gets a thunk promises. -/
namespace F
open PySem PySem.Spec PyProof.Rows L2
abbrev Cl := (Nat → Option Bool) × Option Nat × MS
def setO (i : Option Nat) (x : Option O) (e : Env) : Env := match i with
  | some i => e.set i x
  | none => e
def sufEndO (i : Option Nat) : SR → SR
  | .nx e => .nx (cleanE (setO i none e))
  | .bk e => .bk (cleanE (setO i none e))
  | .ct e => .ct (cleanE (setO i none e))
  | .rt o e => if o.exs g9 = true then .rt o (cleanE (setO i none e)) else .bad
  | .ex _ _ _ => .bad
  | .bad => .bad
def tryL : List Cl → Nat → D → Env → SR
  | [], k, p, e => .ex k p e
  | (cat, i, ms) :: r, k, p, e => match cat k with
    | some true => sufEndO i (ms (setO i (some (.sh (.ex 9 (.tup [.int (k : Nat), p])))) e))
    | some false => tryL r k p e
    | none => .bad
def sTryM (cs : List Cl) (body : MS) : MS := fun e => match body e with
  | .ex k p e1 => tryL cs k p e1
  | r => r
section
variable {X : Cx} {t : Tb} {W : WX} {P : Nat → Bool} {pos pos' np : Pos}
theorem Rp.cleanO {t : Tb} {K : PySem.W.Frag} {a : Addr} {cls : Value} {dx : Option Addr} {H0 Fr H : Hp} {σ : St} {e : Env} {as : Nat → List Addr}
    (rp : Rp ⟨K, (sufT t K a cls dx).cls, (sufT t K a cls dx).fld, (sufT t K a cls dx).tabs, (sufT t K a cls dx).ex, (sufT t K a cls dx).exM, (sufT t K a cls dx).exR⟩ H0 Fr H σ e as) :
    ∃ as', Rp ⟨K, t.cls, t.fld, t.tabs, t.ex, t.exM, t.exR⟩ H0 Fr H σ (cleanE e) as' := by
  obtain ⟨as1, r1⟩ := rp.re (σ' := σ) (e' := cleanE e) (by rw [cleanE_len]; exact rp.len) id (fun j o q => ⟨(cleanE_slot q).1, rfl⟩) (fun i j _ _ _ _ h => h)
  exact ⟨as1, Rp.cv sufDown r1 fun j o q => (cleanE_slot q).2⟩
inductive HdF (X : Cx) (t : Tb) (P : Nat → Bool) : List ExceptHandler → List Cl → Prop
  | nil : HdF X t P [] []
  | bare {x : Str} {c : Value} {cat : Nat → Option Bool} {ms : MS} {b₀ : Stmt} {suite : List Stmt} {np pos' : Pos} {hds : List ExceptHandler} {l : List Cl} (hc : Names X x c) (hcat : ∀ k b, cat k = some b → PySem.W.exmOne X.K (.ref (t.cls k)) c = some b)
      (hsu : ∀ (a : Addr) (oe : Obj) (cls : Value) (d : Option Addr) (pn : List (Addr × Obj)), Zc cls d oe → (∃ vs, oe.data = .fields vs) → SSs (X.suite a ((a, oe) :: pn)) (sufT t X.K a cls d) W0 P (b₀ :: suite) ms) (r : HdF X t P hds l) :
      HdF X t P (.ExceptHandler (some (.Name x np)) none (b₀ :: suite) pos' :: hds) ((cat, none, ms) :: l)
  | named {x n : Str} {i : Nat} {c : Value} {cat : Nat → Option Bool} {ms : MS} {b₀ : Stmt} {suite : List Stmt} {np pos' : Pos} {hds : List ExceptHandler} {l : List Cl} (hP : P i = false) (hi : X.N[i]? = some n) (hln : X.env.kindOf n = some .local) (hc : Names X x c)
      (hcat : ∀ k b, cat k = some b → PySem.W.exmOne X.K (.ref (t.cls k)) c = some b)
      (hsu : ∀ (a : Addr) (oe : Obj) (cls : Value) (d : Option Addr) (pn : List (Addr × Obj)), Zc cls d oe → (∃ vs, oe.data = .fields vs) → SSs (X.suite a ((a, oe) :: pn)) (sufT t X.K a cls d) W0 P (b₀ :: suite) ms) (r : HdF X t P hds l) :
      HdF X t P (.ExceptHandler (some (.Name x np)) (some n) (b₀ :: suite) pos' :: hds) ((cat, some i, ms) :: l)
/-- the clauses, read -/
theorem HdF.read {hds : List ExceptHandler} {cs : List Cl} (h : HdF X t P hds cs) : ∃ l, ClausesOk X hds l ∧
    ∀ {σ σ' : St} {Fr H0 H1 H' : Hp} {En : Ends} {e1 : Env} {as1 : Nat → List Addr} {k : Nat} {p : D} {cls : Value} {dx : Option Addr}, Same H0 H1 → Prot P σ σ' → Rp (cn X t) H1 Fr H' σ' e1 as1 → ExA t (cn X t) H1 H' k p cls dx →
      PoS t (cn X t) W P Fr σ H0 En (tryL cs k p e1) → wClauses X.K W En l cls dx σ' H' := by
  induction h with
  | nil => exact ⟨[], .nil, fun {σ σ' Fr H0 H1 H' En e1 as1 k p cls dx} s pr rp1 xa po => po σ' H1 H' as1 cls dx s pr rp1 xa⟩
  | @bare x c cat ms b₀ suite np pos' hds l0 hc hcat hsu r ih =>
    obtain ⟨l, hl, hr⟩ := ih
    refine ⟨_, .bare hc (ts := fun a cls d => tS (sufT t X.K a cls d) (cn X (sufT t X.K a cls d)) W0 P ms) hsu hl, ?_⟩
    intro σ σ' Fr H0 H1 H' En e1 as1 k p cls dx s pr rp1 xa po
    have xa0 := xa
    obtain ⟨ec, xa⟩ := xa
    unfold tryL at po
    cases q2 : cat k with
    | none => rw [q2] at po; exact po.elim
    | some b =>
      rw [q2] at po
      refine ⟨b, by rw [ec]; exact hcat k b q2, fun hb1 a na => ?_, fun hb1 => ?_⟩
      · subst hb1
        have r0 : Rp (cn X (sufT t X.K a cls dx)) H1 Fr H' σ' e1 as1 := rp1.up
        refine ⟨_, H1, Fr, _, r0, ?_⟩
        have po : PoS t (cn X t) W P Fr σ H0 En (sufEndO none (ms e1)) := po
        cases q3 : ms e1 with
        | nx e3 =>
          rw [q3] at po
          intro σ2 H2 H2' as2 s2 p2 rp2
          obtain ⟨as3, rp3⟩ := rp2.cleanO
          exact po _ H2 H2' as3 (s.trans s2) (pr.trans p2) rp3
        | bk e3 =>
          rw [q3] at po
          intro σ2 H2 H2' as2 s2 p2 rp2
          obtain ⟨as3, rp3⟩ := rp2.cleanO
          exact po _ H2 H2' as3 (s.trans s2) (pr.trans p2) rp3
        | ct e3 =>
          rw [q3] at po
          intro σ2 H2 H2' as2 s2 p2 rp2
          obtain ⟨as3, rp3⟩ := rp2.cleanO
          exact po _ H2 H2' as3 (s.trans s2) (pr.trans p2) rp3
        | rt o e3 =>
          rw [q3] at po
          have po : PoS t (cn X t) W P Fr σ H0 En (if o.exs g9 = true then .rt o (cleanE e3) else .bad) := po
          by_cases z : o.exs g9 = true
          case neg =>
            rw [if_neg z] at po
            exact po.elim
          rw [if_pos z] at po
          intro v σ2 H2 H2' s2 p2 ⟨bs, as2, ow, nd, off, rp2⟩
          obtain ⟨as3, rp3⟩ := rp2.cleanO
          exact po v σ2 H2 H2' (s.trans s2) (pr.trans p2) ⟨bs, as3, OwnR.cv sufDown o v bs z ow, nd, off, rp3⟩
        | ex k3 p3 e3 => rw [q3] at po; exact po.elim
        | bad => rw [q3] at po; exact po.elim
      · subst hb1
        exact hr s pr rp1 xa0 po
  | @named x n i c cat ms b₀ suite np pos' hds l0 hP hi hln hc hcat hsu r ih =>
    obtain ⟨l, hl, hr⟩ := ih
    refine ⟨_, .named hc hi hln (ts := fun a cls d => tS (sufT t X.K a cls d) (cn X (sufT t X.K a cls d)) W0 P ms) hsu hl, ?_⟩
    intro σ σ' Fr H0 H1 H' En e1 as1 k p cls dx s pr rp1 xa po
    have xa0 := xa
    obtain ⟨ec, xa⟩ := xa
    unfold tryL at po
    cases q2 : cat k with
    | none => rw [q2] at po; exact po.elim
    | some b =>
      rw [q2] at po
      refine ⟨b, by rw [ec]; exact hcat k b q2, fun hb1 a na => ?_, fun hb1 => ?_⟩
      · subst hb1
        have r0 : Rp (cn X (sufT t X.K a cls dx)) H1 Fr H' σ' e1 as1 := rp1.up
        have hd : Dat (cn X (sufT t X.K a cls dx)) H1 (.ex 9 (.tup [.int (k : Nat), p])) (.ref a) := .inr ⟨rfl, k, p, rfl, rfl, ec, by
          rcases xa with ⟨dd, v, h1, h2, h3⟩ | h1
          · exact .inl ⟨dd, v, h1, h2, h3⟩
          · exact .inr h1⟩
        have r1 := r0.setSh (i := i) hd
        refine ⟨_, H1, Fr, _, r1, ?_⟩
        have pr2 : Prot P σ (σ'.set i (some (.ref a))) := pr.trans (Prot.set hP)
        have po : PoS t (cn X t) W P Fr σ H0 En (sufEnd i (ms (e1.set i (some (.sh (.ex 9 (.tup [.int (k : Nat), p]))))))) := by
          have po : PoS t (cn X t) W P Fr σ H0 En (sufEndO (some i) (ms (e1.set i (some (.sh (.ex 9 (.tup [.int (k : Nat), p]))))))) := po
          cases q3 : ms (e1.set i (some (.sh (.ex 9 (.tup [.int (k : Nat), p]))))) <;> rw [q3] at po <;> exact po
        cases q3 : ms (e1.set i (some (.sh (.ex 9 (.tup [.int (k : Nat), p]))))) with
        | nx e3 =>
          rw [q3] at po
          intro σ2 H2 H2' as2 s2 p2 rp2
          obtain ⟨as3, rp3⟩ := rp2.clean (i := i)
          exact po _ H2 H2' as3 (s.trans s2) ((pr2.trans p2).trans (Prot.set hP)) rp3
        | bk e3 =>
          rw [q3] at po
          intro σ2 H2 H2' as2 s2 p2 rp2
          obtain ⟨as3, rp3⟩ := rp2.clean (i := i)
          exact po _ H2 H2' as3 (s.trans s2) ((pr2.trans p2).trans (Prot.set hP)) rp3
        | ct e3 =>
          rw [q3] at po
          intro σ2 H2 H2' as2 s2 p2 rp2
          obtain ⟨as3, rp3⟩ := rp2.clean (i := i)
          exact po _ H2 H2' as3 (s.trans s2) ((pr2.trans p2).trans (Prot.set hP)) rp3
        | rt o e3 =>
          rw [q3] at po
          have po : PoS t (cn X t) W P Fr σ H0 En (if o.exs g9 = true then .rt o (cleanE (e3.set i none)) else .bad) := po
          by_cases z : o.exs g9 = true
          case neg =>
            rw [if_neg z] at po
            exact po.elim
          rw [if_pos z] at po
          intro v σ2 H2 H2' s2 p2 ⟨bs, as2, ow, nd, off, rp2⟩
          obtain ⟨as3, rp3⟩ := rp2.clean0 (i := i)
          exact po v σ2 H2 H2' (s.trans s2) (pr2.trans p2) ⟨bs, as3, OwnR.cv sufDown o v bs z ow, nd, off, rp3⟩
        | ex k3 p3 e3 => rw [q3] at po; exact po.elim
        | bad => rw [q3] at po; exact po.elim
      · subst hb1
        exact hr s pr rp1 xa0 po
theorem ss_tryM {body : List Stmt} {h₀ : ExceptHandler} {hds : List ExceptHandler} {cs : List Cl} {mb : MS} (hs : X.stack = X.env :: X.outer) (hf : X.env.frame = some X.env.locals) (hN : X.N.Nodup) (tk : Takes X W)
    (hb : ∀ (W : WX) (pn : List (Addr × Obj)) (xe : Value → Shared → Prop), Takes (X.tr pn xe) W → PassesOwn (model X.prog X.w) X.A X.env xe → SSs (X.tr pn xe) t W P body mb) (hh : HdF X t P (h₀ :: hds) cs) :
    SS X t W P (.Try body (h₀ :: hds) [] [] pos) (sTryM cs mb) := by
  obtain ⟨l, hl, hr⟩ := hh.read (W := W)
  refine PS.imp (ps_try_all (tb := fun W => tS t (cn X t) W P mb) hs hf hN tk hb hl) fun D σ H ⟨e, H0, Fr, as, rp, po⟩ => ?_
  refine ⟨e, H0, Fr, as, rp, ?_⟩
  unfold sTryM at po
  cases q : mb e with
  | nx e1 => rw [q] at po; exact po
  | bk e1 => rw [q] at po; exact po
  | ct e1 => rw [q] at po; exact po
  | rt o e1 => rw [q] at po; exact po
  | bad => rw [q] at po; exact po
  | ex k p e1 =>
    rw [q] at po
    intro σ' H1 H' as1 cls dx s pr rp1 xa
    exact hr s pr rp1 xa po
end
/-! ### a def that gets a thunk -/
section
variable {t : Tb}
end
theorem un52 {A : Around} {k : Nat} (hr : Room k A) : A.units + 52 < cLine := by have := hr.units; omega
end F
end

section
set_option Elab.async false
set_option linter.all false
set_option autoImplicit false
set_option maxRecDepth 100000
set_option maxHeartbeats 2000000
/-! F layer: small facts for the printed texts. -/
namespace F
open PySem PySem.Spec PyProof.Rows L2
/-- tables at one address tell one name -/
def tabsB1 (l : List (Addr × Option Str)) : Bool := l.all fun z => l.all fun q => !decide (z.1 = q.1) || decide (z.2 = q.2)
theorem tabs_un {l : List (Addr × Option Str)} (h : tabsB1 l = true) : ∀ z ∈ l, ∀ q ∈ l, z.1 = q.1 → z.2 = q.2 := fun z hz q hq e => by
  have := List.all_eq_true.mp (List.all_eq_true.mp h z hz) q hq
  rw [decide_eq_true e] at this
  exact of_decide_eq_true (by simpa using this)
theorem boot_repr : bootBuiltins "repr" = some (.builtin "repr") := by decide +kernel
theorem boot_tuple : bootBuiltins "tuple" = some (.type "tuple") := by decide +kernel
def exmB (K : PySem.W.Frag) (a b : Str) (r : Bool) : Bool := decide (PySem.W.exmOne K (.ref (He.ga K a)) (.ref (He.ga K b)) = some r)
end F
end

section
set_option Elab.async false
set_option linter.all false
set_option autoImplicit false
set_option maxRecDepth 100000
set_option maxHeartbeats 2000000
/-! zip(a, b, strict=True) of two lists of one length, walked. -/
namespace F
open PySem PySem.Spec PyProof.Rows L2
/-- a strict zip object at z with its two inner tuples -/
abbrev ZipS (h : Heap) (z ti to : Addr) (f0 : Value) : Prop := h.get? z = some ⟨.type "zip", none, .fields #[f0, .bool false, .bool true, .ref ti, .ref to], #[]⟩
section
variable {prog : Program} {w : World} {A : Around} {E : Value → Shared → Prop} {s : Shared}
/-- one draw that gives an item -/
theorem drawS_item {it l : Addr} {i : Nat} {its : Array Value} {x : Value} {Q : Option Value → Shared → Prop} (hi : s.heap.IsListIter it l i) (hl : s.heap.IsList l its) (hx : its[i]? = some x)
    (q : ∀ h', h'.IsListIter it l (i + 1) → Heap.SameBut it s.heap h' → Q (some x) { s with heap := h' }) : wpAny (model prog w) A (Builtin.SmallTypes.nextOrEnd (.ref it)) Q E s := by
  unfold Builtin.SmallTypes.nextOrEnd
  exact wpAny_bind (wpAny_attempt (wpAny_nextOf_list_item hi hl hx fun h' a b => wpAny_pure (q h' a b)))
/-- one draw at the end -/
theorem drawS_end {it l : Addr} {i : Nat} {its : Array Value} {Q : Option Value → Shared → Prop} (hh : A.handled = none) (hi : s.heap.IsListIter it l i) (hl : s.heap.IsList l its) (hx : its[i]? = none)
    (q : ∀ h', Heap.ExtBut it s.heap h' → Q none { s with heap := h' }) : wpAny (model prog w) A (Builtin.SmallTypes.nextOrEnd (.ref it)) Q E s := by
  unfold Builtin.SmallTypes.nextOrEnd
  refine wpAny_bind (wpAny_attempt (wpAny_nextOf_list_end hh hi hl hx fun h' e ext ⟨oe, he, hc⟩ => ?_))
  exact wpAny_bind (wpAny_isInstance (T := "StopIteration") (b := true) ⟨oe, he, hc⟩ isSubtype_stop (wpAny_pure (q h' ext)))
variable {z ti to i1 i2 l1 l2 : Addr} {k1 k2 : Nat} {xs ys : Array Value}
/-- the next pair -/
theorem nextS_item {x y a b : Value} {Q : Option Value → Shared → Prop} (D : ZipApart z ti to i1 i2 l1 l2) (hz : ZipS s.heap z ti to .none) (hti : IsPair s.heap ti (.ref i1) (.ref i2)) (hto : IsPair s.heap to a b)
    (h1 : s.heap.IsListIter i1 l1 k1) (h2 : s.heap.IsListIter i2 l2 k2) (hl1 : s.heap.IsList l1 xs) (hl2 : s.heap.IsList l2 ys) (hx : xs[k1]? = some x) (hy : ys[k2]? = some y)
    (q : ∀ h', ZipS h' z ti to (rawInt s.heap.objs.size) → IsPair h' to x y → h'.IsListIter i1 l1 (k1 + 1) → h'.IsListIter i2 l2 (k2 + 1) → IsPair h' s.heap.objs.size x y → h'.objs.size = s.heap.objs.size + 1 →
      (∀ c o, c ∉ [z, to, i1, i2] → s.heap.get? c = some o → h'.get? c = some o) → Q (some (.ref s.heap.objs.size)) { s with heap := h' }) :
    wpAny (model prog w) A (pyNext (.ref z)) Q E s := by
  have ty : s.TypeIs (.ref z) "zip" := ⟨_, hz, rfl⟩
  unfold pyNext
  refine wpAny_bind (wpAny_attempt (wpAny_callSpecial?_slot (name := Str.ofString "__next__") ty F.slot_zip_next (wpAny_call_entry F.slot_zip_next ty F.entry_zip_next ?_ (F.args_zip_next_1 _))))
  show wpAny _ _ (field (.ref z) 2 >>= _) _ _ s
  refine wpAny_bind (wpAny_field hz rfl (x := .bool true) rfl (show wpAny _ _ (field (.ref z) 3 >>= _) _ _ s from wpAny_bind (wpAny_field hz rfl (x := .ref ti) rfl (wpAny_bind (wpAny_seqItems hti rfl ?_)))))
  show wpAny _ _ (Builtin.SmallTypes.ownedTupleIsFree (.ref z) >>= _) _ _ s
  refine wpAny_bind ?_
  unfold Builtin.SmallTypes.ownedTupleIsFree
  refine wpAny_bind (wpAny_field hz rfl (x := .none) rfl (wpAny_pure ?_))
  simp only [if_true]
  refine wpAny_bind (wpAny_rule (wpAny_bind (wpAny_field hz rfl (x := .ref to) rfl (wpAny_bind (wpAny_setField_rec hz (by simp) fun ha za sa => ?_)))))
  have za : ZipS ha z ti to .ellipsis := za
  refine wpAny_bind ?_
  simp only [List.zipIdx_cons, List.zipIdx_nil, List.forIn_cons, List.forIn_nil]
  refine wpAny_bind (wpAny_bind (wpAny_onRaise ?_))
  show wpAny _ _ (Builtin.SmallTypes.nextOrEnd (.ref i1)) _ _ _
  refine drawS_item (h1.extBut sa.extBut D.i1z) (hl1.extBut sa.extBut D.l1z) hx fun hb bi sb => ?_
  have tob : IsPair hb to a b := sb.extBut _ _ D.TOi1 (sa.extBut _ _ D.TOz hto)
  refine wpAny_bind (wpAny_seqItems tob rfl (wpAny_bind (wpAny_updateSeq_pair tob fun hc toc sc => wpAny_bind (wpAny_letGo (wpAny_pure ?_)))))
  have toc : IsPair hc to x b := toc
  refine wpAny_bind (wpAny_bind (wpAny_onRaise ?_))
  show wpAny _ _ (Builtin.SmallTypes.nextOrEnd (.ref i2)) _ _ _
  refine drawS_item (((h2.extBut sa.extBut D.i2z).extBut sb.extBut D.i12.symm).extBut sc.extBut D.TOi2.symm) (((hl2.extBut sa.extBut D.l2z).extBut sb.extBut D.l2i1).extBut sc.extBut D.l2TO) hy fun hd di sd => ?_
  have tod : IsPair hd to x b := sd.extBut _ _ D.TOi2 toc
  refine wpAny_bind (wpAny_seqItems tod rfl (wpAny_bind (wpAny_updateSeq_pair tod fun he toe se => wpAny_bind (wpAny_letGo (wpAny_pure (wpAny_pure ?_))))))
  have toe : IsPair he to x y := toe
  refine wpAny_bind (wpAny_seqItems toe rfl (wpAny_bind (wpAny_newTuple ?_)))
  have size : he.objs.size = s.heap.objs.size := by rw [se.1, sd.1, sc.1, sb.1, sa.1]
  have ze : ZipS he z ti to .ellipsis := se.extBut _ _ D.TOz.symm (sd.extBut _ _ D.i2z.symm (sc.extBut _ _ D.TOz.symm (sb.extBut _ _ D.i1z.symm za)))
  have old : ∀ c o, c ≠ z → c ≠ to → c ≠ i1 → c ≠ i2 → s.heap.get? c = some o → he.get? c = some o := fun c o n1 n2 n3 n4 g => se.extBut _ _ n2 (sd.extBut _ _ n4 (sc.extBut _ _ n2 (sb.extBut _ _ n3 (sa.extBut _ _ n1 g))))
  have e1 : he.IsListIter i1 l1 (k1 + 1) := ((bi.extBut sc.extBut D.TOi1.symm).extBut sd.extBut D.i12).extBut se.extBut D.TOi1.symm
  have e2 : he.IsListIter i2 l2 (k2 + 1) := di.extBut se.extBut D.TOi2.symm
  have zlt : z < he.objs.size := Heap.lt_size ze
  show wpAny _ _ (Builtin.SmallTypes.ownedTupleHandOut (.ref z) (.ref he.objs.size) >>= _) _ _ _
  refine wpAny_bind ?_
  unfold Builtin.SmallTypes.ownedTupleHandOut
  have zf : ZipS (he.push { cls := .type "tuple", data := .seq #[x, y] }) z ti to .ellipsis := Heap.get?_push_of_some _ ze
  refine wpAny_bind (wpAny_setField_rec zf (by simp) fun hg zg sg => ?_)
  have zg : ZipS hg z ti to (rawInt he.objs.size) := zg
  refine wpAny_setField_rec zg (by simp) fun hh zh sh => ?_
  have zh : ZipS hh z ti to (rawInt he.objs.size) := zh
  have up : ∀ c o, c ≠ z → he.get? c = some o → hh.get? c = some o := fun c o n g => sh.extBut _ _ n (sg.extBut _ _ n (Heap.get?_push_of_some _ g))
  have pair : IsPair hh he.objs.size x y := sh.extBut _ _ (Nat.ne_of_gt zlt) (sg.extBut _ _ (Nat.ne_of_gt zlt) (Heap.get?_push_size _ rfl))
  have sz : hh.objs.size = he.objs.size + 1 := by rw [sh.1, sg.1, Heap.size_push]
  rw [size] at zh pair sz
  refine wpAny_pure ⟨_, rfl, ?_⟩
  show wpAny _ _ _ _ _ _
  rw [size]
  refine wpAny_pure (q hh zh (up _ _ D.TOz toe) (e1.at fun o g => up _ o D.i1z g) (e2.at fun o g => up _ o D.i2z g) pair sz fun c o nc g => ?_)
  simp only [List.mem_cons, List.not_mem_nil, or_false, not_or] at nc
  exact up c o nc.1 (old c o nc.1 nc.2.1 nc.2.2.1 nc.2.2.2 g)
end
end F
end

section
set_option Elab.async false
set_option linter.all false
set_option autoImplicit false
set_option maxRecDepth 100000
set_option maxHeartbeats 2000000
namespace F
open PySem PySem.Spec PyProof.Rows L2
section
variable {prog : Program} {w : World} {A : Around} {E : Value → Shared → Prop} {s : Shared}
variable {z ti to i1 i2 l1 l2 : Addr} {k1 k2 : Nat} {xs ys : Array Value}
theorem nextS_end {a b : Value} {Q : Option Value → Shared → Prop} (hh : A.handled = none) (D : ZipApart z ti to i1 i2 l1 l2) (hz : ZipS s.heap z ti to .none) (hti : IsPair s.heap ti (.ref i1) (.ref i2)) (hto : IsPair s.heap to a b)
    (h1 : s.heap.IsListIter i1 l1 k1) (h2 : s.heap.IsListIter i2 l2 k2) (hl1 : s.heap.IsList l1 xs) (hl2 : s.heap.IsList l2 ys) (hx : xs[k1]? = none) (hy : ys[k2]? = none)
    (q : ∀ h', (∀ c o, c ∉ [z, to, i1, i2] → s.heap.get? c = some o → h'.get? c = some o) → Q none { s with heap := h' }) :
    wpAny (model prog w) A (pyNext (.ref z)) Q E s := by
  have ty : s.TypeIs (.ref z) "zip" := ⟨_, hz, rfl⟩
  unfold pyNext
  refine wpAny_bind (wpAny_attempt (wpAny_callSpecial?_slot (name := Str.ofString "__next__") ty F.slot_zip_next (wpAny_call_entry F.slot_zip_next ty F.entry_zip_next ?_ (F.args_zip_next_1 _))))
  show wpAny _ _ (field (.ref z) 2 >>= _) _ _ s
  refine wpAny_bind (wpAny_field hz rfl (x := .bool true) rfl (show wpAny _ _ (field (.ref z) 3 >>= _) _ _ s from wpAny_bind (wpAny_field hz rfl (x := .ref ti) rfl (wpAny_bind (wpAny_seqItems hti rfl ?_)))))
  show wpAny _ _ (Builtin.SmallTypes.ownedTupleIsFree (.ref z) >>= _) _ _ s
  refine wpAny_bind ?_
  unfold Builtin.SmallTypes.ownedTupleIsFree
  refine wpAny_bind (wpAny_field hz rfl (x := .none) rfl (wpAny_pure ?_))
  simp only [if_true]
  refine wpAny_bind (wpAny_rule (wpAny_bind (wpAny_field hz rfl (x := .ref to) rfl (wpAny_bind (wpAny_setField_rec hz (by simp) fun ha za sa => ?_)))))
  have za : ZipS ha z ti to .ellipsis := za
  refine wpAny_bind ?_
  simp only [List.zipIdx_cons, List.zipIdx_nil, List.forIn_cons, List.forIn_nil]
  refine wpAny_bind (wpAny_bind (wpAny_onRaise ?_))
  show wpAny _ _ (Builtin.SmallTypes.nextOrEnd (.ref i1)) _ _ _
  refine drawS_end hh (h1.extBut sa.extBut D.i1z) (hl1.extBut sa.extBut D.l1z) hx fun hb sb => ?_
  have zb : ZipS hb z ti to .ellipsis := sb _ _ D.i1z.symm za
  refine wpAny_bind (wpAny_setField_rec zb (by simp) fun hc zc sc => ?_)
  have i2c : hc.IsListIter i2 l2 k2 := ((h2.extBut sa.extBut D.i2z).extBut sb D.i12.symm).extBut sc.extBut D.i2z
  have l2c : hc.IsList l2 ys := ((hl2.extBut sa.extBut D.l2z).extBut sb D.l2i1).extBut sc.extBut D.l2z
  refine wpAny_bind (Q := fun r s' => _) ?_
  wp_delta
  rw [if_neg (Nat.lt_irrefl 0)]
  refine wpAny_bind ?_
  simp only [List.drop_succ_cons, List.drop_zero, List.zipIdx_cons, List.zipIdx_nil, List.forIn_cons, List.forIn_nil]
  refine wpAny_bind (wpAny_bind (drawS_end hh i2c l2c hy fun hd sd => ?_))
  rw [if_neg (by decide)]
  refine wpAny_pure (wpAny_pure (wpAny_bind (wpAny_rule ?_)))
  show wpAny _ _ (newExc (.type "StopIteration") [] >>= _) _ _ _
  refine wpAny_bind ?_
  simp only [newExc, newTuple]
  refine wpAny_bind (wpAny_newObj_type (wpAny_bind (m := firstArgMember _ _) (wpAny_of_eq (a := Value.none) (by first | rfl | (simp only [firstArgMember]; rfl)) (wpAny_newObj_type ?_ (by size_fits)))) (by size_fits))
  refine wpAny_raiseNew_none hh ?_
  have isS := Heap.get?_push_size (hd.push { cls := .type "tuple", data := .seq #[] }) (o := { cls := .type "StopIteration", data := .fields #[.ref hd.objs.size, .none, .none, .none, .bool false, .none] }) rfl
  refine wpAny_bind (wpAny_isInstance (T := "StopIteration") (b := true) ⟨_, Heap.get?_push_size _ rfl, rfl⟩ isSubtype_stop (wpAny_pure (q _ fun c o nc g => ?_)))
  simp only [List.mem_cons, List.not_mem_nil, or_false, not_or] at nc
  exact Heap.get?_push_of_some _ (Heap.get?_push_of_some _ (sd _ _ nc.2.2.2 (sc.extBut _ _ nc.1 (sb _ _ nc.2.2.1 (sa.extBut _ _ nc.1 g)))))
/-- what was handed out is let go -/
theorem letS {elts : List Expr} {x1 : Nat} {pos : Pos} {T : Addr} {Q : Unit → Shared → Prop} (hz : ZipS s.heap z ti to (rawInt T)) (q : ∀ h', ZipS h' z ti to .none → Heap.SameBut z s.heap h' → Q () { s with heap := h' }) :
    wpAny (model prog w) A (letOwnedTupleGo (.Tuple elts x1 pos) (.ref z) (.ref T)) Q E s := by
  unfold letOwnedTupleGo
  refine wpAny_bind (wpAny_load hz ?_)
  show wpAny _ _ (if (List.contains _ "zip" && (#[rawInt T, .bool false, .bool true, .ref ti, .ref to] : Array Value)[0]? == some (rawInt T)) = true then _ else _) Q E s
  rw [if_pos (by simp)]
  refine wpAny_bind (wpAny_rule ?_)
  show wpAny _ _ (setField (.ref z) 0 .none) Q E s
  exact wpAny_setField_rec hz (by simp) fun h' a b => q h' a b
theorem iterS {f0 : Value} {Q : Value → Shared → Prop} (hz : ZipS s.heap z ti to f0) (q : Q (.ref z) s) : wpAny (model prog w) A (pyIter (.ref z)) Q E s := by
  have ty : s.TypeIs (.ref z) "zip" := ⟨_, hz, rfl⟩
  refine wpAny_pyIter_slot ty F.slot_zip_iter (wpAny_call_entry F.slot_zip_iter ty F.entry_zip_iter (show wpAny _ _ (ret (.ref z)) _ _ s from wpAny_pure ⟨_, rfl, "zip", _, ty, F.slot_zip_next.lookup, q⟩) (F.args_zip_iter_1 _))
end
/-! ### the call -/
theorem typeCall_strict (a b c : Value) : checkTypeCall "zip" ⟨[a, b], [(Str.ofString "strict", c)]⟩ = pure () := by kernel_rfl
theorem newCall_strict (a b c : Value) : checkBuiltinCall "zip.__new__" ⟨[.type "zip", a, b], [(Str.ofString "strict", c)]⟩ = pure () := by kernel_rfl
theorem objInit_strict (o a b c : Value) : argsOk "object.__init__" ⟨[o, a, b], [(Str.ofString "strict", c)]⟩ := by unfold argsOk; kernel_rfl
abbrev zs1 (h : Heap) (l : Addr) : Heap := h.push { cls := .type "list_iterator", data := .fields #[.ref l, .int 0 0] }
abbrev zs2 (h : Heap) (l m : Addr) : Heap := zs1 (zs1 h l) m
abbrev zs3 (h : Heap) (l m : Addr) : Heap := (zs2 h l m).push { cls := .type "tuple", data := .seq #[.ref h.objs.size, .ref (zs1 h l).objs.size] }
abbrev zs4 (h : Heap) (l m : Addr) : Heap := (zs3 h l m).push { cls := .type "tuple", data := .seq #[.none, .none] }
abbrev zs5 (h : Heap) (l m : Addr) : Heap := (zs4 h l m).push { cls := .type "zip", data := .fields #[.none, .bool false, .bool true, .ref (zs2 h l m).objs.size, .ref (zs3 h l m).objs.size] }
theorem meets_strict (l m : Addr) (xs ys : Array Value) : Meets (Builtin.«zip.__new__» ⟨[.type "zip", .ref l, .ref m], [(Str.ofString "strict", .bool true)]⟩) (fun _ R s => s.heap.IsList l xs ∧ s.heap.IsList m ys ∧
    R (.ok (.ret (.ref (zs4 s.heap l m).objs.size))) { s with heap := zs5 s.heap l m }) :=
  .of_wp fun prog w A R s h => by
    obtain ⟨hp, g, d, tk, os⟩ := s
    obtain ⟨a, b, h⟩ := h
    have hsub := sub_zip
    have a : Heap.IsList (Shared.heap ⟨hp, g, d, tk, os⟩) l xs := a
    have b : Heap.IsList (Shared.heap ⟨zs1 hp l, g, d, tk, os⟩) m ys := Heap.IsList.push b _
    have e1 : (Str.ofString "strict" != ("strict" : Str)) = false := by decide +kernel
    wp_walk using wpAny_pyIter_list a, wpAny_pyIter_list b
    exact ⟨_, rfl, h⟩
section
variable {prog : Program} {w : World} {A : Around} {E : Value → Shared → Prop} {s : Shared}
theorem call_strict {l m : Addr} {xs ys : Array Value} {Q : Value → Shared → Prop} (hl : s.heap.IsList l xs) (hm : s.heap.IsList m ys)
    (q : ∀ h', ZipS h' (s.heap.objs.size + 4) (s.heap.objs.size + 2) (s.heap.objs.size + 3) .none → IsPair h' (s.heap.objs.size + 2) (.ref s.heap.objs.size) (.ref (s.heap.objs.size + 1)) →
      IsPair h' (s.heap.objs.size + 3) .none .none → h'.IsListIter s.heap.objs.size l 0 → h'.IsListIter (s.heap.objs.size + 1) m 0 → (∀ c o, s.heap.get? c = some o → h'.get? c = some o) → Q (.ref (s.heap.objs.size + 4)) { s with heap := h' }) :
    wpAny (model prog w) A (call (.type "zip") [.ref l, .ref m] [(Str.ofString "strict", .bool true)]) Q E s := by
  refine callType_newKw F.called_zip (by decide) (typeCall_strict _ _ _) (newCall_strict _ _ _) (fun o => objInit_strict o _ _ _) F.entry_zip_new (meets_strict l m xs ys) ⟨hl, hm, ?_⟩
  have z1 : (zs1 s.heap l).objs.size = s.heap.objs.size + 1 := Heap.size_push ..
  have z2 : (zs2 s.heap l m).objs.size = s.heap.objs.size + 2 := by rw [Heap.size_push, z1]
  have z3 : (zs3 s.heap l m).objs.size = s.heap.objs.size + 3 := by rw [Heap.size_push, z2]
  have z4 : (zs4 s.heap l m).objs.size = s.heap.objs.size + 4 := by rw [Heap.size_push, z3]
  have up1 : ∀ {c o}, (zs4 s.heap l m).get? c = some o → (zs5 s.heap l m).get? c = some o := fun e => Heap.get?_push_of_some _ e
  have up2 : ∀ {c o}, (zs3 s.heap l m).get? c = some o → (zs5 s.heap l m).get? c = some o := fun e => up1 (Heap.get?_push_of_some _ e)
  have up3 : ∀ {c o}, (zs2 s.heap l m).get? c = some o → (zs5 s.heap l m).get? c = some o := fun e => up2 (Heap.get?_push_of_some _ e)
  have up4 : ∀ {c o}, (zs1 s.heap l).get? c = some o → (zs5 s.heap l m).get? c = some o := fun e => up3 (Heap.get?_push_of_some _ e)
  have g5 : (zs5 s.heap l m).get? (zs4 s.heap l m).objs.size = some _ := Heap.get?_push_size _ rfl
  have g4 : (zs5 s.heap l m).get? (zs3 s.heap l m).objs.size = some _ := up1 (Heap.get?_push_size _ rfl)
  have g3 : (zs5 s.heap l m).get? (zs2 s.heap l m).objs.size = some _ := up2 (Heap.get?_push_size _ rfl)
  have g2 : (zs5 s.heap l m).get? (zs1 s.heap l).objs.size = some _ := up3 (Heap.get?_push_size _ rfl)
  have g1 : (zs5 s.heap l m).get? s.heap.objs.size = some _ := up4 (Heap.get?_push_size _ rfl)
  show _ ∧ _
  rw [z2, z3, z4] at g5
  rw [z3] at g4
  rw [z1, z2] at g3
  rw [z1] at g2
  rw [z4]
  exact ⟨⟨_, g5, rfl⟩, q _ g5 g3 g4 ⟨_, g1, rfl, rfl⟩ ⟨_, g2, rfl, rfl⟩ fun c o e => up4 (Heap.get?_push_of_some _ e)⟩
end
/-! ### walked -/
/-- the items of two lists of one length, in new pairs -/
def Its (K : PySem.W.Frag) (a b : Addr) : It := ⟨(Itz K a b).go, (Itz K a b).yld, fun i H => ∃ xs ys : List V, SqL K H a xs ∧ SqL K H b ys ∧ xs.length ≤ i ∧ ys.length ≤ i⟩
theorem mem5 {c z ti to i1 i2 : Addr} (h : c ∈ [z, ti, to, i1, i2]) : c = z ∨ c = ti ∨ c = to ∨ c = i1 ∨ c = i2 := by simpa using h
theorem turnS {P : Program} {w : World} {K : PySem.W.Frag} {elts : List Expr} {kk : Nat} {tpos : Pos} {a b z ti to i1 i2 : Addr} (D : ZipApart z ti to i1 i2 a b) :
    Turn P w K (.Tuple elts kk tpos) (Its K a b) [z, ti, to, i1, i2] z (fun i h => ZipS h z ti to .none ∧ IsPair h ti (.ref i1) (.ref i2) ∧ (∃ x y, IsPair h to x y) ∧ h.IsListIter i1 a i ∧ h.IsListIter i2 b i) where
  mem := List.mem_cons_self ..
  obj := by
    rintro i h ⟨hz, hti, ⟨x, y, hto⟩, ⟨o1, e1, _, d1⟩, ⟨o2, e2, _, d2⟩⟩ c hc
    rcases mem5 hc with rfl | rfl | rfl | rfl | rfl
    · exact ⟨_, hz, fun v z => nomatch z⟩
    · exact ⟨_, hti, fun v z => nomatch z⟩
    · exact ⟨_, hto, fun v z => nomatch z⟩
    · exact ⟨_, e1, fun v z => by rw [d1] at z; cases z⟩
    · exact ⟨_, e2, fun v z => by rw [d2] at z; cases z⟩
  keep := by
    rintro i h h' ⟨hz, hti, ⟨x, y, hto⟩, a1, a2⟩ k
    exact ⟨k _ (by simp) _ hz, k _ (by simp) _ hti, ⟨x, y, k _ (by simp) _ hto⟩, a1.at fun o g => k _ (by simp) o g, a2.at fun o g => k _ (by simp) o g⟩
  item := by
    rintro X rfl rfl rfl hc i pins s σ H E I hf ⟨hz, hti, ⟨x0, y0, hto⟩, a1, a2⟩ ⟨xs, ys, x, y, qx, qy, hx, hy⟩
    obtain ⟨us, ru, pu, _⟩ := I.list qx
    obtain ⟨ws, rw, pw, _⟩ := I.list qy
    obtain ⟨u, hu, r1⟩ := ru.get hx
    obtain ⟨v, hv, r2⟩ := rw.get hy
    have zlt := Heap.lt_size hz
    refine nextS_item D hz hti hto a1 a2 pu.isList pw.isList (x := u) (y := v) (by simpa using hu) (by simpa using hv) fun h1 z1 t1 b1 b2 pr _ k1 => ?_
    refine ⟨_, rfl, letS (s := { s with heap := h1 }) z1 fun h2 z2 sb => ?_⟩
    have k2 : ∀ c o, c ∉ [z, ti, to, i1, i2] → s.heap.get? c = some o → h2.get? c = some o := fun c o nc g => by
      simp only [List.mem_cons, List.not_mem_nil, or_false, not_or] at nc
      exact (sb.2 c nc.1).trans (k1 c o (by simp [nc]) g)
    have pr2 : h2.get? s.heap.objs.size = some { cls := .type "tuple", data := .seq #[u, v] } := (sb.2 _ (Nat.ne_of_gt zlt)).trans pr
    have fresh := I.hok.fresh (Nat.le_refl s.heap.objs.size)
    have new : ObjOk X.prog X.w (upd H s.heap.objs.size (.tup [x, y])) h2 s.heap.objs.size (.tup [x, y]) := ⟨show 2 ≤ sizeLine by decide, [u, v], .cons r1 (.cons r2 .nil), ⟨_, pr2, rfl, _, rfl⟩⟩
    refine ⟨.ref s.heap.objs.size, _, I.turnedNew (t' := s.toks) (ch := [z, ti, to, i1, i2]) k2 hf (Nat.le_refl _) new, rfl, ⟨_, x, y, rfl, fresh, rfl, fun l hl => by rw [I.list_inj hl qx]; exact hx, fun l hl => by rw [I.list_inj hl qy]; exact hy⟩, ⟨z2, ?_, ⟨u, v, (sb.2 _ D.TOz).trans t1⟩, ?_, ?_⟩, fun c hc => ?_⟩
    · exact (sb.2 _ D.TIz).trans (k1 _ _ (by simp [D.TIz, D.TITO, D.TIi1, D.TIi2]) hti)
    · exact b1.at fun o g => (sb.2 _ D.i1z).trans g
    · exact b2.at fun o g => (sb.2 _ D.i2z).trans g
    · have lt : c < s.heap.objs.size := by
        rcases mem5 hc with rfl | rfl | rfl | rfl | rfl
        · exact zlt
        · exact Heap.lt_size hti
        · exact Heap.lt_size hto
        · exact let ⟨_, g, _⟩ := a1; Heap.lt_size g
        · exact let ⟨_, g, _⟩ := a2; Heap.lt_size g
      rw [upd_ne (Nat.ne_of_lt lt)]
      exact (hf c hc).1
  done := by
    rintro X rfl rfl rfl hc i pins s σ H E I hf ⟨hz, hti, ⟨x0, y0, hto⟩, a1, a2⟩ ⟨xs, ys, qx, qy, lx, ly⟩
    obtain ⟨us, ru, pu, _⟩ := I.list qx
    obtain ⟨ws, rw, pw, _⟩ := I.list qy
    have e1 := ru.length
    have e2 := rw.length
    refine nextS_end (I.ok.hd hc) D hz hti hto a1 a2 pu.isList pw.isList (by simp; omega) (by simp; omega) fun h' k => ⟨rfl, I.turnedL (t' := s.toks) (ch := [z, ti, to, i1, i2]) (fun c o nc g => k c o ?_ g) hf⟩
    simp only [List.mem_cons, List.not_mem_nil, or_false, not_or] at nc ⊢
    exact ⟨nc.1, nc.2.2.1, nc.2.2.2.1, nc.2.2.2.2⟩
  self := fun A i s Q E st q => iterS st.1 q
theorem callWith_typeKw {M : Model} {A : Around} {E : Value → Shared → Prop} {s : Shared} {env : PySem.Env} {pos : Pos} {T : String} {e : Expr} {rest : List Expr} {kws : List Keyword} {Q : Value → Shared → Prop}
    (h : wpAny M A (spliced (backTo pos (starEach (e :: rest) env))) (fun vs s₁ => wpAny M A (evalAll ((backToKw pos (keywordEach kws env)).map (·.2)))
      (fun ks s₂ => wpAny M A (call (.type T) vs (((backToKw pos (keywordEach kws env)).filterMap (·.1)).zip ks)) Q E s₂) E s₁) E s)
    (he : starEach (e :: rest) env = (false, eval e env) :: starEach rest env) (hp : (backTo pos (starEach (e :: rest) env)).any (·.1) = false) (ha : (backToKw pos (keywordEach kws env)).all (·.1.isSome) = true) (hk : (backToKw pos (keywordEach kws env)).any (·.1.isNone) = false) :
    wpAny M A (callWith pos (.type T) [] (backTo pos (starEach (e :: rest) env)) (backToKw pos (keywordEach kws env))) Q E s := by
  unfold callWith
  refine wpAny_bind (wpAny_holding (evalArgs_kw2 ha (wpAny_mono h (fun vs s1 h1 => wpAny_mono h1 (fun ks s2 h2 => wpAny_bind (wpAny_standAt ?_)) fun _ _ x => x) fun _ _ x => x) he))
  simp only [hp, hk, Bool.or_false]
  exact wpAny_bind (wpAny_pure (wpAny_bind (wpAny_mono h2 (fun r s3 h3 => wpAny_bind (wpAny_holding (wpAny_point (wpAny_pure h3)))) fun _ _ x => x)))
def iStrict (K : PySem.W.Frag) (ta : TA) : TI := fun σ H R => ta σ H fun vs H1 => ∃ a b xs ys, vs = [.ref a, .ref b] ∧ SqL K H1 a xs ∧ SqL K H1 b ys ∧ R (Its K a b) H1
theorem pi_strict {X : Cx} {e e2 : Expr} {ta : TA} {p pos tpos kp cp : Pos} {elts : List Expr} {kk j : Nat} (hg : Gl X "zip") (hm : X.mg "zip" = none) (ha : PA X [e, e2] ta)
    (hs : starEach [e, e2] X.env = (false, eval e X.env) :: starEach [e2] X.env := by rfl) (hp : (backTo pos (starEach [e, e2] X.env)).any (·.1) = false := by rfl) :
    PI X (.Tuple elts kk tpos) (.Call (.Name "zip" p) [e, e2] [⟨some "strict", .Constant (.bool true) j cp, kp⟩] pos) (iStrict X.K ta) := by
  refine ⟨fun pins s σ H R I h => ?_⟩
  refine wpAny_Call_Name_kw (ld_blt I hg hm PyProof.Rows.boot_zip (callWith_typeKw (thn (ha.run pos pins s σ H _ I h) fun us s1 ⟨vs, H1, I1, r1, a, b, xs, ys, ev, qx, qy, q⟩ => ?_) hs hp rfl rfl))
  subst ev
  refine kws_cons (thn ((pe_bl (X := X) (b := true) (j := j) (pos := cp)).run pins s1 σ H1 (fun v H2 => v = .bl true ∧ H2 = H1) I1 ⟨rfl, rfl⟩) fun u s2 ⟨v, H2, I2, r2, ev, eH⟩ => kws_nil ?_)
  subst ev
  rw [eH] at I2
  obtain rfl : u = Value.bool true := r2
  obtain ⟨u1, us1, rfl, rel1, r1⟩ : ∃ u us', us = u :: us' ∧ RelV (.ref a) u ∧ Vals [.ref b] us' := by
    cases r1 with
    | cons x y => exact ⟨_, _, rfl, x, y⟩
  obtain ⟨u2, rfl, rel2⟩ := r1.one
  cases rel1
  cases rel2
  obtain ⟨us, ru, pu, _⟩ := I2.list qx
  obtain ⟨ws, rw, pw, _⟩ := I2.list qy
  show wpAny _ _ (call (.type "zip") [.ref a, .ref b] [(Str.ofString "strict", .bool true)]) _ _ _
  refine call_strict pu.isList pw.isList fun h' hz hti hto a1 a2 k => iterS hz ?_
  refine ⟨s2.heap.objs.size + 4, [s2.heap.objs.size + 4, s2.heap.objs.size + 2, s2.heap.objs.size + 3, s2.heap.objs.size, s2.heap.objs.size + 1], _, _, H1, rfl, I2.kept (t' := s2.toks) k, turnS (PySem.W.ktu_apart s2.heap.objs.size a b pu.lt pw.lt), ⟨hz, hti, ⟨_, _, hto⟩, a1, a2⟩, fun c hc => ?_, q⟩
  have hle : s2.heap.objs.size ≤ c := by rcases mem5 hc with e | e | e | e | e <;> rw [e] <;> first | exact Nat.le_add_right _ _ | exact Nat.le_refl _
  exact I2.fpOk hle (I2.hok.fresh hle)
/-! ### as plain data -/
theorem wk_strict {c : Cn} {H0 : Hp} {a b : Addr} {xs ys : List D} {vs ws : List V} (hl : xs.length = ys.length) (h1 : SqL c.K H0 a vs) (h2 : SqL c.K H0 b ws) (d1 : Dats c H0 xs vs) (d2 : Dats c H0 ys ws) : WkD c H0 (Its c.K a b) (zipF xs ys) := by
  obtain ⟨G, Y, w, hG, hY⟩ := wk_zip h1 h2 d1 d2
  have hn : (zipF xs ys).length = xs.length := by rw [zipF_len]; omega
  refine ⟨fun H => G H ∧ SqL c.K H a vs ∧ SqL c.K H b ws, Y, ⟨fun i H hi q => w.goes i H hi q.1, fun H q => ⟨vs, ws, q.2.1, q.2.2, by rw [d1.len]; omega, by rw [d2.len]; omega⟩, fun i H x H' hi q y => w.yields i H x H' hi q.1 y⟩, fun H2 H' s1 s2 => ⟨hG H2 H' s1 s2, SqL.same (s1.trans s2) h1, SqL.same (s1.trans s2) h2⟩, hY⟩
def zipS : D → D → Env → Rs (List D)
  | .lst xs, .lst ys, e => if xs.length = ys.length then .ok (zipF xs ys) e else .bad
  | _, _, _ => .bad
def mItS (a b : M R) : M (List D) := fun e => andThen (a e) fun r e1 => andThen (leak r e1) fun x e2 => andThen (b e2) fun q e3 => andThen (leak q e3) fun y e4 => zipS x y e4
end F
end

section
set_option Elab.async false
set_option linter.all false
set_option autoImplicit false
set_option maxRecDepth 100000
set_option maxHeartbeats 2000000
/-! F layer: zip(strict=True), range(a, b), chains of comparisons, [*xs, e], xs[a:b] = [..]. -/
namespace F
open PySem PySem.Spec PyProof.Rows L2
section
variable {X : Cx} {t : Tb} {W : WX} {P : Nat → Bool} {a b k v lo hi : Expr} {ma mb mc : M R} {pos p tpos kp cp apos p1 p2 : Pos} {elts : List Expr} {kk j i : Nat} {tg : Expr}
theorem si_strict (hg : Gl X "zip") (hm : X.mg "zip" = none) (ha : SE X t W a ma) (hb : SE X t W b mb) (hs : starEach [a, b] X.env = (false, eval a X.env) :: starEach [b] X.env := by rfl) (hs2 : starEach [b] X.env = [(false, eval b X.env)] := by rfl) (hpl : (backTo pos (starEach [a, b] X.env)).any (·.1) = false := by rfl) :
    SI X t W (.Tuple elts kk tpos) (.Call (.Name "zip" p) [a, b] [⟨some "strict", .Constant (.bool true) j cp, kp⟩] pos) (mItS ma mb) := by
  refine PI.imp (pi_strict hg hm (sd_cons ha (sd_cons hb sd_nil hs2) hs) hs hpl) fun σ H Q ⟨e, H0, Fr, as, rp, po⟩ => ?_
  refine ⟨e, H0, Fr, as, rp, ?_⟩
  have po : Po t (cn X t) W Fr σ H0 (rrI (cn X t) Fr σ) Q (andThen (ma e) fun r e1 => andThen (leak r e1) fun x e2 => andThen (mb e2) fun q e3 => andThen (leak q e3) fun y e4 => zipS x y e4) := po
  show Po t (cn X t) W Fr σ H0 (rrDs (cn X t) Fr σ) _ (andThen (ma e) fun r e1 => andThen (leak r e1) fun x e2 => andThen (andThen (mb e2) fun q e3 => andThen (leak q e3) fun y e4 => .ok [y] e4) fun ds e5 => .ok (x :: ds) e5)
  cases q0 : ma e with
  | bad => rw [q0] at po; exact po.elim
  | ex k' p' e1 => rw [q0] at po; exact po
  | ok ra e1 =>
    rw [q0] at po
    have po : Po t (cn X t) W Fr σ H0 (rrI (cn X t) Fr σ) Q (andThen (leak ra e1) fun x e2 => andThen (mb e2) fun q e3 => andThen (leak q e3) fun y e4 => zipS x y e4) := po
    show Po t (cn X t) W Fr σ H0 (rrDs (cn X t) Fr σ) _ (andThen (leak ra e1) fun x e2 => andThen (andThen (mb e2) fun q e3 => andThen (leak q e3) fun y e4 => .ok [y] e4) fun ds e5 => .ok (x :: ds) e5)
    cases q1 : leak ra e1 with
    | bad => rw [q1] at po; exact po.elim
    | ex k' p' e2 => rw [q1] at po; exact po
    | ok x e2 =>
      rw [q1] at po
      have po : Po t (cn X t) W Fr σ H0 (rrI (cn X t) Fr σ) Q (andThen (mb e2) fun q e3 => andThen (leak q e3) fun y e4 => zipS x y e4) := po
      show Po t (cn X t) W Fr σ H0 (rrDs (cn X t) Fr σ) _ (andThen (andThen (mb e2) fun q e3 => andThen (leak q e3) fun y e4 => .ok [y] e4) fun ds e5 => .ok (x :: ds) e5)
      cases q2 : mb e2 with
      | bad => rw [q2] at po; exact po.elim
      | ex k' p' e3 => rw [q2] at po; exact po
      | ok rb e3 =>
        rw [q2] at po
        have po : Po t (cn X t) W Fr σ H0 (rrI (cn X t) Fr σ) Q (andThen (leak rb e3) fun y e4 => zipS x y e4) := po
        show Po t (cn X t) W Fr σ H0 (rrDs (cn X t) Fr σ) _ (andThen (andThen (leak rb e3) fun y e4 => .ok [y] e4) fun ds e5 => .ok (x :: ds) e5)
        cases q3 : leak rb e3 with
        | bad => rw [q3] at po; exact po.elim
        | ex k' p' e4 => rw [q3] at po; exact po
        | ok y e4 =>
          rw [q3] at po
          rintro vs H1 H' s ⟨⟨as1, rp1⟩, v, vs', rfl, hx, w, vs2, rfl, hy, k2⟩
          have k2 : vs2 = [] := k2
          subst k2
          match x, y, po, hx, hy with
          | .lst xs, .lst ys, po, hx, hy =>
            obtain ⟨_, a1, ws1, rfl, g1, g2⟩ := hx
            obtain ⟨_, a2, ws2, rfl, g3, g4⟩ := hy
            have po : Po t (cn X t) W Fr σ H0 (rrI (cn X t) Fr σ) Q (if xs.length = ys.length then .ok (zipF xs ys) e4 else .bad) := po
            by_cases hl : xs.length = ys.length
            · rw [if_pos hl] at po
              exact ⟨a1, a2, ws1, ws2, rfl, SqL.same rp1.sub g1, SqL.same rp1.sub g3, po _ H1 H' s ⟨⟨as1, rp1⟩, wk_strict hl g1 g3 g2 g4⟩⟩
            · rw [if_neg hl] at po
              exact po.elim
/-! ### range(a, b) -/
def mItR (a b : M R) : M (List D) := fun e => andThen (mRs [a, b] e) fun rs e1 => match peeks rs e1 with
  | some [.int i, .int j] => if (-4611686018427387904 ≤ i ∧ i < 4611686018427387904) ∧ -4611686018427387904 ≤ j ∧ j < 4611686018427387904 then .ok (rngF i (j - i).toNat) e1 else .bad
  | _ => .bad
theorem si_rng2 (hg : Gl X "range") (hm : X.mg "range" = none) (ha : SE X t W a ma) (hb : SE X t W b mb) (hs : starEach [a, b] X.env = (false, eval a X.env) :: starEach [b] X.env := by rfl) (hs2 : starEach [b] X.env = [(false, eval b X.env)] := by rfl) (hpl : (backTo pos (starEach [b] X.env)).any (·.1) = false := by rfl) :
    SI X t W tg (.Call (.Name "range" p) [a, b] [] pos) (mItR ma mb) := by
  refine PI.imp (pi_range2 hg hm (sa_cons ha (sa_cons hb sa_nil hs2) hs) (hs.trans (by rw [hs2])) hs2) fun σ H Q ⟨e, H0, Fr, as, rp, po⟩ => ?_
  refine ⟨e, H0, Fr, as, rp, Po.bind (f := fun rs e1 => match peeks rs e1 with
    | some [.int i, .int j] => if (-4611686018427387904 ≤ i ∧ i < 4611686018427387904) ∧ -4611686018427387904 ≤ j ∧ j < 4611686018427387904 then .ok (rngF i (j - i).toNat) e1 else .bad
    | _ => .bad) po fun rs e1 vs H1 H' s ⟨⟨as1, rp1⟩, ks⟩ po => ?_⟩
  split at po
  · rename_i i j q
    by_cases h : (-4611686018427387904 ≤ i ∧ i < 4611686018427387904) ∧ -4611686018427387904 ≤ j ∧ j < 4611686018427387904
    case neg => rw [if_neg h] at po; exact po.elim
    rw [if_pos h] at po
    obtain ⟨v, r, rfl, h1, h2⟩ := ks.peeks rp1 q
    obtain ⟨w, rfl, h3⟩ := Dats1.one h2
    have h1 : v = .int i := h1
    have h3 : w = .int j := h3
    subst h1 h3
    exact ⟨i, j, rfl, ⟨by omega, by omega, by omega, by omega⟩, po _ H1 H' (Same.refl _) ⟨⟨as1, rp1⟩, wk_rng⟩⟩
  · exact po.elim
/-! ### a == b == c -/
def mChain (f g : D → D → Option D) (a b c : M R) : M R := fun e => andThen (a e) fun r e1 => andThen (b e1) fun q e2 => ofO (peek (nrm r) e2) fun x => ofO (peek (nrm q) e2) fun y => ofO (f x y) fun z => match z with
  | .bl true => andThen (c e2) fun s e3 => ofO (peek (nrm q) e3) fun y => ofO (peek s e3) fun w => ofO (g y w) fun z => .ok (.d z) e3
  | .bl false => .ok (.d (.bl false)) e2
  | _ => .bad
theorem tI_chain {op op' : CmpOp} {r r' : R2} {f g : D → D → Option D} {c : Expr} (hv : VOp2 (cn X t) r f) (hv' : VOp2 (cn X t) r' g) {σ : St} {H : Hp} {Q : VK} (h : tG t (cn X t) W (rrR (cn X t)) (mChain f g ma mb mc) σ H Q) :
    tChain r r' (tG t (cn X t) W (rrR (cn X t)) ma) (tG t (cn X t) W (rrR (cn X t)) mb) (tG t (cn X t) W (rrR (cn X t)) mc) σ H Q := by
  obtain ⟨e, H0, Fr, as, rp, po⟩ := h
  refine ⟨e, H0, Fr, as, rp, po.bind fun ra e1 v H1 H' s rr po => ?_⟩
  obtain ⟨H2, as, s2, rp, kp⟩ := RpR.keep rr
  refine ⟨e1, H2, Fr, as, rp, (po.mono s2).bind fun rb e2 w H3 H'' s3 rr2 po => ?_⟩
  obtain ⟨H4, as4, s4, rp4, kp2⟩ := RpR.keep rr2
  obtain ⟨dx, q1, po⟩ := po.ofO
  obtain ⟨dy, q2, po⟩ := po.ofO
  obtain ⟨dz, q3, po⟩ := po.ofO
  have hz : ∃ k, dz = .bl k := by
    cases dz with
    | bl k => exact ⟨k, rfl⟩
    | _ => exact po.elim
  obtain ⟨k, rfl⟩ := hz
  refine hv H4 H'' v w dx dy (.bl k) _ rp4.sub q3 ((kp.mono (s3.trans s4)).peek rp4 q1) (kp2.peek rp4 q2) ⟨fun z hz => ?_, fun p o hp hd => by cases hd⟩
  have hz : z = .bl k := hz
  subst hz
  refine ⟨k, rfl, ?_⟩
  cases k with
  | false =>
    show Q _ _
    exact po _ H4 H'' s4 ⟨⟨as4, rp4⟩, rfl⟩
  | true =>
    show tG _ _ _ _ _ _ _ _
    have po : Po t (cn X t) W Fr σ H3 (rrR (cn X t) Fr σ) Q (andThen (mc e2) fun s e3 => ofO (peek (nrm rb) e3) fun y => ofO (peek s e3) fun w => ofO (g y w) fun z => .ok (.d z) e3) := po
    refine ⟨e2, H4, Fr, as4, rp4, (po.mono s4).bind fun rc e3 u H5 H3'' s5 rr3 po => ?_⟩
    obtain ⟨dy2, q4, po⟩ := po.ofO
    obtain ⟨dw, q5, po⟩ := po.ofO
    obtain ⟨dr, q6, po⟩ := po.ofO
    obtain ⟨H6, as6, s6, rp6, hd⟩ := RpR.peek rr3 q5
    exact hv' H6 H3'' w u dy2 dw dr Q rp6.sub q6 ((kp2.mono (s5.trans s6)).peek rp6 q4) hd ((po.mono s6).out rp6)
theorem sb_chain {op op' : CmpOp} {r r' : R2} {f g : D → D → Option D} {c : Expr} (ho : OpR X (compareOp op) r) (hv : VOp2 (cn X t) r f) (ho' : OpR X (compareOp op') r') (hv' : VOp2 (cn X t) r' g) (ha : SE X t W a ma) (hb : SE X t W b mb) (hc : SE X t W c mc)
    (hm : lastMarks [op, op'] [b, c] = false := by with_unfolding_all rfl) : SB X t W (.Compare a [op, op'] [b, c] pos) (mTB (mChain f g ma mb mc)) :=
  PT.imp (pt_chain ho ho' ha hb hc hm) fun _ _ _ q => tI_chain (op := op) (op' := op') (c := c) hv hv' (tG_tb q)
/-! ### [*xs, ..] -/
def mStar (a : M R) (m : M (List D)) : M (List D) := fun e => andThen (a e) fun r e1 => andThen (leak r e1) fun d e2 => match d with
  | .lst l => andThen (m e2) fun ds e3 => .ok (l ++ ds) e3
  | .tup l => andThen (m e2) fun ds e3 => .ok (l ++ ds) e3
  | _ => .bad
def mLstD (m : M (List D)) : M R := fun e => andThen (m e) fun ds e1 => if ds.length ≤ lim then .ok (.ow (.fl ds)) e1 else .bad
theorem sd_star {es : List Expr} {m : M (List D)} (ha : SE X t W a ma) (hr : SD X t W es m) (hs : starEach (.Starred a p :: es) X.env = (true, eval a X.env) :: starEach es X.env := by rfl) : SD X t W (.Starred a p :: es) (mStar ma m) := by
  refine PA.imp (StX.pa_star ha hr hs) fun σ H Q ⟨e, H0, Fr, as, rp, po⟩ => ?_
  refine ⟨e, H0, Fr, as, rp, Po.bind (f := fun r e1 => andThen (leak r e1) fun d e2 => match d with
    | .lst l => andThen (m e2) fun ds e3 => .ok (l ++ ds) e3
    | .tup l => andThen (m e2) fun ds e3 => .ok (l ++ ds) e3
    | _ => .bad) po fun ra e1 v H1 H' s rr po => ?_⟩
  obtain ⟨d, e2, H2, as, q, s2, rp, hd, po⟩ := po.leak rr
  have go : ∀ (l : List D) (vs : List V), Dats (cn X t) H2 l vs → Po t (cn X t) W Fr σ H2 (rrDs (cn X t) Fr σ) Q (andThen (m e2) fun ds e3 => .ok (l ++ ds) e3) → tG t (cn X t) W (rrDs (cn X t)) m σ H' fun ys H3 => Q (vs ++ ys) H3 := fun l vs h2 po =>
    ⟨e2, H2, Fr, as, rp, po.bind fun ds e3 ws H3 H'' s3 ⟨rp3, ks⟩ po => po.ret (Same.refl _) ⟨rp3, Dats.app (Dats.mono s3 _ _ h2) ks⟩⟩
  cases d with
  | lst l =>
    obtain ⟨_, b, vs, rfl, h1, h2⟩ := hd
    exact ⟨b, vs, rfl, .inr (SqL.same rp.sub h1), go l vs h2 po⟩
  | tup l =>
    obtain ⟨_, b, vs, rfl, h1, h2⟩ := hd
    exact ⟨b, vs, rfl, .inl (SqT.same rp.sub h1), go l vs h2 po⟩
  | _ => exact po.elim
theorem se_lstD {es : List Expr} {m : M (List D)} (h : SD X t W es m) : SE X t W (.List es pos) (mLstD m) := by
  refine PE.imp (pe_lst h) fun σ H Q ⟨e, H0, Fr, as, rp, po⟩ => ?_
  refine ⟨e, H0, Fr, as, rp, po.bind fun ds e1 vs H1 H' s ⟨⟨as, rp⟩, hd⟩ po => ?_⟩
  by_cases hl : ds.length ≤ lim
  · rw [if_pos hl] at po
    exact ⟨by rw [hd.len, sizeLine_lim]; exact hl, fun p hp => po.newL rp p vs hp hl hd⟩
  · rw [if_neg hl] at po
    exact po.elim
/-! ### xs[a:b] = [..] -/
/-- the target's reading -/
def gSlice (to : TE) (tl th : TO) : TG := fun u σ H Q => to σ H fun x H1 => tl σ H1 fun lo H2 => th σ H2 fun hi H3 => ∃ (l b : Addr) (xs ys : List V) (i j : Int), x = .ref l ∧ u = .ref b ∧ lo = some i ∧ hi = some j ∧ H3 l = some (.lst xs) ∧ H3 b = some (.lst ys) ∧ l ≠ b ∧ 0 ≤ i ∧ i ≤ j ∧ j ≤ xs.length ∧ xs.length + ys.length ≤ sizeLine ∧
  Q σ (upd H3 l (.lst (xs.take i.toNat ++ ys ++ xs.drop j.toNat)))
theorem pg_slice {o : Expr} {lo hi : Option Expr} {to : TE} {tl th : TO} (ho : PE X o to) (hl : PO X lo tl) (hh : PO X hi th)
    (ha : ∀ v, assign (.Subscript o (.Slice lo hi none p2) pos) X.env v = (do
      let ov ← holding [v] (eval o X.env)
      let iv ← holding [v, ov] (eval (.Slice lo hi none p2) X.env)
      standAt pos
      holding [v, ov, iv] (setItem ov iv v)
      release [iv, v, ov] []) := by intro _; rfl) : PG X (.Subscript o (.Slice lo hi none p2) pos) (gSlice to tl th) := by
  refine ⟨fun pins s σ H v u Q I r h => ?_⟩
  rw [ha]
  refine wpAny_bind (wpAny_holding (thn (ho.run pins s σ H _ I h) fun ov s1 ⟨x, H1, I1, r1, q1⟩ => wpAny_bind (wpAny_holding (wpAny_Slice ?_))))
  refine thn (hl.run pins s1 σ H1 _ I1 q1) fun vl s2 ⟨o1, H2, I2, p1, q2⟩ => thn (hh.run pins s2 σ H2 _ I2 q2) fun vu s3 ⟨o2, H3, I3, p2, l, b, xs, ys, i, j, e1, e2, e3, e4, hL, hB, ne, h0, hij, hj, hz, q⟩ => ?_
  subst e1 e2 e3 e4
  rw [evalPart_none]
  obtain rfl : ov = Value.ref l := r1
  obtain rfl : u = Value.ref b := r
  have r3 : RelV (.int i) vl := by cases p1; exact ⟨_, rfl⟩
  have r4 : RelV (.int j) vu := by cases p2; exact ⟨_, rfl⟩
  have J : Inv X pins σ H3 { s3 with heap := s3.heap.push { cls := .type "slice", data := .fields #[vl, vu, .none] } } := I3.kept (t' := s3.toks) fun c oc g => Heap.get?_push_of_some _ g
  exact wpAny_pure (wpAny_bind (wpAny_standAt (wpAny_bind (wpAny_holding (set_slice J hL hB ne (Heap.IsSliceOf.new ..) r3 r4 h0 hij hj hz fun s' J' => wpAny_release ⟨σ, _, J', q⟩)))))
def sSlSto (i : Nat) (lo hi : Option (M R)) (v : M R) : MS := fun e => sOf (v e) fun r e1 => match r with
  | .ow (.fl ys) => (match F.slot e1 i with
    | some _ => sOf (mPt lo e1) fun p e2 => sOf (mPt hi e2) fun q e3 => (match F.slot e3 i, p, q with
      | some (.fl l), some p, some q => if 0 ≤ p ∧ p ≤ q ∧ q ≤ l.length ∧ l.length + ys.length ≤ lim then .nx (e3.set i (some (.fl (l.take p.toNat ++ ys ++ l.drop q.toNat)))) else .bad
      | _, _, _ => .bad)
    | none => .bad)
  | _ => .bad
/-- a run in a richer frame -/
theorem PoS.more {α β : Type} {c : Cn} {RR : Hp → Hp → Hp → Env → β → α → Prop} {Fr Fr' H0 : Hp} {σ : St} {En : Ends} {x : Rs α} {f : α → Env → SR} {k' : β → Hp → Prop} (po : PoS t c W P Fr σ H0 En (sOf x f)) (less : ∀ b o, Fr b = some o → Fr' b = some o)
    (hk : ∀ (a : α) (e : Env) (b : β) (H1 H' : Hp), Same H0 H1 → RR Fr' H1 H' e b a → PoS t c W P Fr σ H1 En (f a e) → k' b H') : Po t c W Fr' σ H0 (RR Fr') k' x := by
  cases x with
  | ok a e1 => exact fun b H1 H' s rr => hk a e1 b H1 H' s rr (PoS.mono s Prot.refl po)
  | ex k p e1 => exact fun H1 H' as cls dx s rp xa => po σ H1 H' as cls dx s Prot.refl (rp.less less) xa
  | bad => exact po
theorem ss_slsto {x : Str} {lo hi : Option Expr} {mlo mhi : Option (M R)} {mv : M R} (ho : PE X (.Name x p1) (tVar i)) (hl : SPt X t W lo mlo) (hh : SPt X t W hi mhi) (hv : SE X t W v mv)
    (ha : ∀ v, assign (.Subscript (.Name x p1) (.Slice lo hi none p2) apos) X.env v = (do
      let ov ← holding [v] (eval (.Name x p1) X.env)
      let iv ← holding [v, ov] (eval (.Slice lo hi none p2) X.env)
      standAt apos
      holding [v, ov, iv] (setItem ov iv v)
      release [iv, v, ov] []) := by intro _; rfl) (hs : swapsWithSole [.Subscript (.Name x p1) (.Slice lo hi none p2) apos] v pos.line X.env = pure false := by rfl) (hw : swappedStores [.Subscript (.Name x p1) (.Slice lo hi none p2) apos] v X.env = pure none := by rfl)
    (h1 : (assignEach [.Subscript (.Name x p1) (.Slice lo hi none p2) apos] X.env).map (·.2) = [assign (.Subscript (.Name x p1) (.Slice lo hi none p2) apos) X.env] := by rfl) : SS X t W P (.Assign [.Subscript (.Name x p1) (.Slice lo hi none p2) apos] v pos) (sSlSto i mlo mhi mv) := by
  refine PS.imp (ps_asg hv (pg_slice ho hl hh ha) hs hw h1) fun En σ H ⟨e, H0, Fr, as, rp, po⟩ => ?_
  refine ⟨e, H0, Fr, as, rp, PoS.of po fun r e1 y H1 H' s rr po => ?_⟩
  split at po
  · rename_i ys
    obtain ⟨bs, as1, ow, nd, off, rpb⟩ := rr
    obtain ⟨hly, b, ws, eb, ebs, hb, hd⟩ := ow
    have less : ∀ c o, Fr c = some o → addF Fr H' bs c = some o := fun c o h => by
      rw [addF_out fun z => by rw [(off c z).2] at h; cases h]
      exact h
    have hbF : addF Fr H' bs b = some (.lst ws) := by rw [addF_in (by rw [ebs]; simp)]; exact hb
    cases q0 : F.slot e1 i with
    | none => rw [q0] at po; exact po.elim
    | some o0 =>
      rw [q0] at po
      obtain ⟨w, hw, _⟩ := rpb.own i _ q0
      refine ⟨w, hw, e1, H1, _, as1, rpb, PoS.more (RR := fun Fr => rrPt (cn X t) Fr σ) po less fun p e2 y1 H2 H2' s2 rr2 po => ?_⟩
      obtain ⟨ey1, as2, rp2⟩ := rr2
      refine ⟨e2, H2, _, as2, rp2, PoS.more (RR := fun Fr => rrPt (cn X t) Fr σ) po less fun q e3 y2 H3 H3' s3 rr3 po => ?_⟩
      obtain ⟨ey2, as3, rp3⟩ := rr3
      split at po
      · rename_i l p q qs _
        by_cases hc : 0 ≤ p ∧ p ≤ q ∧ q ≤ l.length ∧ l.length + ys.length ≤ lim
        case neg => rw [if_neg hc] at po; exact po.elim
        rw [if_pos hc] at po
        obtain ⟨v0, g1, _, p0, vs0, e0, ga, _, _⟩ := rp3.own i _ qs
        obtain ⟨hll, p3, vs, e3', h3, h4, h5⟩ := rp3.lst qs hw
        have hne : p3 ≠ b := fun z => by
          have z1 := (rp3.off i p0 (by rw [ga]; simp)).2
          rw [hw] at g1
          cases g1
          rw [e3'] at e0
          cases e0
          rw [z, hbF] at z1
          cases z1
        have hB := (rp3.fr b _ hbF).1
        subst ey1 ey2
        refine ⟨p3, b, vs, ws, p, q, e3', eb, rfl, rfl, h3, hB, hne, hc.1, hc.2.1, by rw [h4.len]; exact hc.2.2.1, by rw [h4.len, hd.len, sizeLine_lim]; exact hc.2.2.2, ?_⟩
        have hd3 : Dats (cn X t) H3 ys ws := Dats.mono (s2.trans s3) _ _ hd
        have l1 : (l.take p.toNat ++ ys ++ l.drop q.toNat).length ≤ lim := by
          rw [List.length_append, List.length_append, List.length_take, List.length_drop]
          have := hc.2.2.2
          omega
        exact po σ H3 _ as3 (Same.refl _) Prot.refl ((h5 _ _ l1 (Dats.app (Dats.app (Dats.take _ h4) hd3) (Dats.drop _ h4))).less less)
      · exact po.elim
  · exact po.elim
end
end F
end

section
set_option Elab.async false
set_option linter.all false
set_option autoImplicit false
set_option maxRecDepth 100000
set_option maxHeartbeats 2000000
/-! F layer: parts of the text by their places; lambdas that are never made. -/
namespace F
open PySem PySem.Spec PyProof.Rows L2
/-- the parts of a statement, of an expression (nothing there: None) -/
abbrev noE : Expr := .Constant .none 0 ⟨0, 0, 0, 0⟩
abbrev noS : Stmt := .Pass ⟨0, 0, 0, 0⟩
def aS (l : List Stmt) (i : Nat) : Stmt := l.getD i noS
def aIter : Stmt → Expr
  | .For _ it _ _ _ => it
  | _ => noE
def aArg (e : Expr) (i : Nat) : Expr := match e with
  | .Call _ xs _ _ => xs.getD i noE
  | _ => noE
def lPar : Expr → Arguments
  | .Lambda p _ _ _ => p
  | _ => ⟨[], [], none, [], [], none, []⟩
def lBody : Expr → Expr
  | .Lambda _ b _ _ => b
  | _ => noE
def lScope : Expr → Scope
  | .Lambda _ _ s _ => s
  | _ => default
def lamAt (q : Str) (e : Expr) (c : Addr) : LF := ⟨q, lPar e, lBody e, lScope e, c⟩
def nFn : Fn := fun _ => .bad
theorem lok_none {P : Program} {w : World} {K : PySem.W.Frag} {mg : Str → Option Value} {base : Heap} {CX : CXT} {k n : Nat} {F : LF} {t : Tb} {c : Cn} : LOk P w K mg base CX k F n (spF t c nFn n) :=
  ⟨fun _ _ _ _ h => h.1, fun A outer s H f us vs Q E _ _ _ _ _ _ h => by
    obtain ⟨_, os, H0, Fr, as, _, hm⟩ := h
    exact hm.elim⟩
theorem LOk.up {P : Program} {w : World} {K : PySem.W.Frag} {mg : Str → Option Value} {base : Heap} {CX : CXT} {j k n : Nat} {F : LF} {sp : Sp} (o : LOk P w K mg base CX j F n sp) (h : j ≤ k) : LOk P w K mg base CX k F n sp := o.mono h
end F
end

section
set_option Elab.async false
set_option linter.all false
set_option autoImplicit false
set_option maxRecDepth 100000
set_option maxHeartbeats 2000000
/-! F layer: x, y = a, b where a name is captured: a tuple is made and taken apart. -/
namespace F
open PySem PySem.Spec PyProof.Rows L2
theorem RpO.alloc {c : Cn} {H0 Fr H : Hp} {σ : St} {e : Env} {vs : List V} {os : List O} (r : RpO c H0 Fr H σ e vs os) {p : Addr} {x : HO} (hp : H p = none) : Same H0 (upd H0 p x) ∧ RpO c (upd H0 p x) Fr (upd H p x) σ e vs os := by
  obtain ⟨bs, as, h, nd, off, rp⟩ := r
  obtain ⟨s1, rp1⟩ := rp.alloc (x := x) hp
  have ne : ∀ a ∈ bs, a ≠ p := fun a ha z => by
    obtain ⟨y, hy⟩ := OwnRs.here os vs bs h a ha
    rw [z, hp] at hy
    cases hy
  have ef : addF Fr (upd H p x) bs = addF Fr H bs := by
    funext a
    by_cases z : a ∈ bs
    · rw [addF_in z, addF_in z, upd_ne (ne a z)]
    · rw [addF_out z, addF_out z]
  exact ⟨s1, bs, as, OwnRs.mono s1 os vs bs (fun a ha => upd_ne (ne a ha)) h, nd, fun a ha => ⟨by rw [upd_ne (ne a ha)]; exact (off a ha).1, (off a ha).2⟩, by rw [ef]; exact rp1⟩
section
variable {X : Cx} {t : Tb} {W : WX} {P : Nat → Bool} {a b : Expr} {ma mb : M R} {pos : Pos}
theorem ss_parU {i j : Nat} {x y : Str} {px py pt : Pos} {kt k2 : Nat} {pt2 : Pos} (hPi : P i = false) (hPj : P j = false) (hc : X.calm = true) (hN : X.N.Nodup) (hi : X.N[i]? = some x) (hj : X.N[j]? = some y)
    (hx : Loc X.env.scope x) (hy : Loc X.env.scope y) (ha : SO X t W [a, b] (mOs [ma, mb]))
    (fx : X.fn x = true ∨ X.env.scope.names.lookup x = some .local := by first | exact .inl rfl | exact .inr rfl) (fy : X.fn y = true ∨ X.env.scope.names.lookup y = some .local := by first | exact .inl rfl | exact .inr rfl)
    (hw : swappedStores [.Tuple [.Name x px, .Name y py] kt pt] (.Tuple [a, b] k2 pt2) X.env = pure none := by rfl)
    (hs : swapsWithSole [.Tuple [.Name x px, .Name y py] kt pt] (.Tuple [a, b] k2 pt2) pos.line X.env = pure false := by rfl) :
    SS X t W P (.Assign [.Tuple [.Name x px, .Name y py] kt pt] (.Tuple [a, b] k2 pt2) pos) (sPar [i, j] [ma, mb]) := by
  refine PS.imp (ps_asg (pe_tup ha) (pg_tup hc (pgs_cons (pg_name hN hi hx fx) (pgs_cons (pg_name hN hj hy fy) pgs_nil))) hs hw) fun D σ H ⟨e, H0, Fr, as, rp, po⟩ => ?_
  refine ⟨e, H0, Fr, as, rp, PoS.of po fun os e1 vs H1 H' s ro po => ?_⟩
  obtain ⟨e2, q, po⟩ := PoS.ofOS po
  have two : ∃ o1 o2 v1 v2, os = [o1, o2] ∧ vs = [v1, v2] := by
    match os, q with
    | [o1, o2], q =>
      obtain ⟨_, _, ⟨v1, r1, _, _, h, _, _, ⟨v2, r2, _, _, h2, _, _, ⟨h3, _⟩⟩⟩, _⟩ := ro
      subst h3 h2 h
      exact ⟨o1, o2, v1, v2, rfl, rfl⟩
    | [], q => cases q
    | [_], q => cases q
    | _ :: _ :: _ :: _, q => cases q
  obtain ⟨o1, o2, v1, v2, rfl, rfl⟩ := two
  cases q
  refine ⟨by rw [sizeLine_lim]; show 2 ≤ lim; decide, fun p hp => ?_⟩
  obtain ⟨s1, ro1⟩ := ro.alloc (x := .tup [v1, v2]) hp
  obtain ⟨bs, as3, ⟨_, hb⟩, _, _, rp3⟩ := RpO.set (i := j) (RpO.set (i := i) ro1)
  subst hb
  rw [addF_nil] at rp3
  exact ⟨p, [v1, v2], rfl, SqT.of upd_same, rfl, v1, [v2], rfl, v2, [], rfl, rfl, po _ _ _ as3 s1 ((Prot.set hPi).trans (Prot.set hPj)) rp3⟩
theorem ss_parU3 {i j l : Nat} {x y z : Str} {c' : Expr} {mc : M R} {px py pz pt : Pos} {kt k2 : Nat} {pt2 : Pos} (hPi : P i = false) (hPj : P j = false) (hPl : P l = false) (hc : X.calm = true) (hN : X.N.Nodup) (hi : X.N[i]? = some x) (hj : X.N[j]? = some y) (hl : X.N[l]? = some z)
    (hx : Loc X.env.scope x) (hy : Loc X.env.scope y) (hz : Loc X.env.scope z) (ha : SO X t W [a, b, c'] (mOs [ma, mb, mc]))
    (fx : X.fn x = true ∨ X.env.scope.names.lookup x = some .local := by first | exact .inl rfl | exact .inr rfl) (fy : X.fn y = true ∨ X.env.scope.names.lookup y = some .local := by first | exact .inl rfl | exact .inr rfl) (fz : X.fn z = true ∨ X.env.scope.names.lookup z = some .local := by first | exact .inl rfl | exact .inr rfl)
    (hw : swappedStores [.Tuple [.Name x px, .Name y py, .Name z pz] kt pt] (.Tuple [a, b, c'] k2 pt2) X.env = pure none := by rfl)
    (hs : swapsWithSole [.Tuple [.Name x px, .Name y py, .Name z pz] kt pt] (.Tuple [a, b, c'] k2 pt2) pos.line X.env = pure false := by rfl) :
    SS X t W P (.Assign [.Tuple [.Name x px, .Name y py, .Name z pz] kt pt] (.Tuple [a, b, c'] k2 pt2) pos) (sPar [i, j, l] [ma, mb, mc]) := by
  refine PS.imp (ps_asg (pe_tup ha) (pg_tup hc (pgs_cons (pg_name hN hi hx fx) (pgs_cons (pg_name hN hj hy fy) (pgs_cons (pg_name hN hl hz fz) pgs_nil)))) hs hw) fun D σ H ⟨e, H0, Fr, as, rp, po⟩ => ?_
  refine ⟨e, H0, Fr, as, rp, PoS.of po fun os e1 vs H1 H' s ro po => ?_⟩
  obtain ⟨e2, q, po⟩ := PoS.ofOS po
  have three : ∃ o1 o2 o3 v1 v2 v3, os = [o1, o2, o3] ∧ vs = [v1, v2, v3] := by
    match os, q with
    | [o1, o2, o3], q =>
      obtain ⟨_, _, ⟨v1, r1, _, _, h, _, _, ⟨v2, r2, _, _, h2, _, _, ⟨v3, r3, _, _, h3, _, _, ⟨h4, _⟩⟩⟩⟩, _⟩ := ro
      subst h4 h3 h2 h
      exact ⟨o1, o2, o3, v1, v2, v3, rfl, rfl⟩
    | [], q => cases q
    | [_], q => cases q
    | [_, _], q => cases q
    | _ :: _ :: _ :: _ :: _, q => cases q
  obtain ⟨o1, o2, o3, v1, v2, v3, rfl, rfl⟩ := three
  cases q
  refine ⟨by rw [sizeLine_lim]; show 3 ≤ lim; decide, fun p hp => ?_⟩
  obtain ⟨s1, ro1⟩ := ro.alloc (x := .tup [v1, v2, v3]) hp
  obtain ⟨bs, as3, ⟨_, hb⟩, _, _, rp3⟩ := RpO.set (i := l) (RpO.set (i := j) (RpO.set (i := i) ro1))
  subst hb
  rw [addF_nil] at rp3
  exact ⟨p, [v1, v2, v3], rfl, SqT.of upd_same, rfl, v1, [v2, v3], rfl, v2, [v3], rfl, v3, [], rfl, rfl, po _ _ _ as3 s1 (((Prot.set hPi).trans (Prot.set hPj)).trans (Prot.set hPl)) rp3⟩
end
end F
end

section
set_option linter.all false
set_option autoImplicit false
set_option maxRecDepth 100000
/-! running plain defs: loops, comprehensions -/
namespace F
theorem for_cons {t : Tg} {body : MS} {d : F.D} {ds : List F.D} {e e1 e2 : Env} (h1 : t.put d e = some e1) (h2 : body e1 = .nx e2) : forL t body (d :: ds) e = forL t body ds e2 := by simp only [forL, h1, h2]
theorem for_consR {t : Tg} {body : MS} {d : F.D} {ds : List F.D} {e e1 e2 : Env} {o : O} (h1 : t.put d e = some e1) (h2 : body e1 = .rt o e2) : forL t body (d :: ds) e = .rt o e2 := by simp only [forL, h1, h2]
/-- a loop that turns s -/
theorem for_fold {α σ : Type} {enc : α → F.D} {g : σ → Env} {step : σ → α → σ} {I : σ → Prop} {t : Tg} {body : MS} : ∀ {as : List α} {s : σ}, (∀ s, ∀ a ∈ as, I s → (∃ e1, t.put (enc a) (g s) = some e1 ∧ body e1 = .nx (g (step s a))) ∧ I (step s a)) → I s →
    forL t body (as.map enc) (g s) = .nx (g (as.foldl step s)) ∧ I (as.foldl step s)
  | [], s, _, hI => ⟨rfl, hI⟩
  | a :: as, s, h, hI => by
    obtain ⟨⟨e1, h1, h2⟩, h3⟩ := h s a (List.mem_cons_self ..) hI
    rw [List.map_cons, for_cons h1 h2]
    exact for_fold (fun s b hb => h s b (List.mem_cons_of_mem _ hb)) h3
/-- one turn of a comprehension -/
def lcOne (own : List Nat) (t : Tg) (c : M Bool) (v : M F.R) (d : F.D) (e : Env) : Option (Option F.D × Env) := match t.put d e with
  | some e1 => (match c e1 with
    | .ok true e2 => (match v e2 with
      | .ok r e3 => (match leak r e3 with
        | .ok x e4 => some (some x, wipeE e4 own)
        | _ => none)
      | _ => none)
    | .ok false e2 => some (none, wipeE e2 own)
    | _ => none)
  | none => none
theorem lc_eq {own : List Nat} {t : Tg} {c : M Bool} {v : M F.R} {d : F.D} {ds acc : List F.D} {e e' : Env} {o : Option F.D} (h : lcOne own t c v d e = some (o, e')) : lcL own t c v (d :: ds) acc e = lcL own t c v ds (acc ++ o.toList) e' := by
  unfold lcOne at h
  conv => lhs; unfold lcL
  cases h1 : t.put d e with
  | none => rw [h1] at h; cases h
  | some e1 =>
    rw [h1] at h
    dsimp only at h ⊢
    cases h2 : c e1 with
    | ok b e2 =>
      rw [h2] at h
      cases b with
      | true =>
        dsimp only at h ⊢
        cases h3 : v e2 with
        | ok r e3 =>
          rw [h3] at h
          dsimp only at h ⊢
          cases h4 : leak r e3 with
          | ok x e4 =>
            rw [h4] at h
            cases h
            rfl
          | ex => rw [h4] at h; cases h
          | bad => rw [h4] at h; cases h
        | ex => rw [h3] at h; cases h
        | bad => rw [h3] at h; cases h
      | false =>
        cases h
        show lcL own t c v ds acc _ = _
        rw [show (none : Option F.D).toList = [] from rfl, List.append_nil]
    | ex => rw [h2] at h; cases h
    | bad => rw [h2] at h; cases h
theorem lc_fm {α : Type} {enc : α → F.D} {own : List Nat} {t : Tg} {c : M Bool} {v : M F.R} {e : Env} {f : α → Option F.D} : ∀ {as : List α} {acc : List F.D}, (∀ a ∈ as, lcOne own t c v (enc a) e = some (f a, e)) → lcL own t c v (as.map enc) acc e = .ok (acc ++ as.filterMap f) e
  | [], acc, _ => by simp [lcL]
  | a :: as, acc, h => by
    rw [List.map_cons, lc_eq (h a (List.mem_cons_self ..)), lc_fm fun b hb => h b (List.mem_cons_of_mem _ hb), List.filterMap_cons]
    cases f a <;> simp
/-- .. every item kept -/
theorem lc_map {α : Type} {enc : α → F.D} {own : List Nat} {t : Tg} {c : M Bool} {v : M F.R} {e : Env} {f : α → F.D} {as : List α} {acc : List F.D} (h : ∀ a ∈ as, lcOne own t c v (enc a) e = some (some (f a), e)) : lcL own t c v (as.map enc) acc e = .ok (acc ++ as.map f) e := by
  rw [lc_fm (f := fun a => some (f a)) h]
  simp
/-! items -/
theorem rngF_map (lo : Int) : ∀ n, rngF lo n = (List.range n).map fun i => F.D.int (lo + (i : Nat))
  | 0 => rfl
  | n + 1 => by
    rw [List.range_succ_eq_map]
    simp only [rngF, List.map_cons, List.map_map, rngF_map (lo + 1) n]
    congr 1
    · simp
    · apply List.map_congr_left
      intro i _
      simp only [Function.comp_apply]
      congr 1
      omega
theorem pls_all {l : List F.D} (h : ∀ d ∈ l, d.pl = true) : pls l = true := by
  induction l with
  | nil => rfl
  | cons a l ih =>
    show (a.pl && pls l) = true
    rw [h a (List.mem_cons_self ..), ih fun d hd => h d (List.mem_cons_of_mem _ hd)]
    rfl
theorem dps_all {l : List F.D} {n : Nat} (h : ∀ d ∈ l, d.dp ≤ n) : dps l ≤ n := by
  induction l with
  | nil => exact Nat.zero_le _
  | cons a l ih => exact Nat.max_le.mpr ⟨h a (List.mem_cons_self ..), ih fun d hd => h d (List.mem_cons_of_mem _ hd)⟩
/-- a list beside the empty one -/
theorem cmp_nil {l : List F.D} (h : pls l = true) : cmpOk (.lst l) (.lst []) = true := by
  unfold cmpOk
  rw [show (F.D.lst l).pl = pls l from rfl, h, show decide ((F.D.lst []).dp ≤ 50) = true from rfl, Bool.or_true]
  rfl
theorem ne_nil {l : List F.D} (h : pls l = true) : neD (.lst l) (.lst []) = some (.bl (!l.isEmpty)) := by
  unfold neD
  rw [cmp_nil h]
  cases l <;> rfl
mutual
theorem eqB_refl : ∀ d : F.D, d.pl = true → eqB d d = true
  | .non, _ => rfl
  | .bl b, _ => by simp [eqB]
  | .int i, _ => by simp [eqB]
  | .str x, _ => by simp [eqB]
  | .tup l, h => eqBs_refl l h
  | .lst l, h => eqBs_refl l h
  | .dct _, h => by cases h
  | .obj _ _, h => by cases h
  | .ex _ _, h => by cases h
theorem eqBs_refl : ∀ l : List F.D, pls l = true → eqBs l l = true
  | [], _ => rfl
  | d :: l, h => by
    have h : (d.pl && pls l) = true := h
    rw [Bool.and_eq_true] at h
    show (eqB d d && eqBs l l) = true
    rw [eqB_refl d h.1, eqBs_refl l h.2]
    rfl
end
theorem ne_refl {d : F.D} (h : d.pl = true) (h2 : d.dp ≤ 50) : neD d d = some (.bl false) := by
  unfold neD cmpOk
  rw [h, decide_eq_true h2, eqB_refl d h]
  rfl
theorem getI_nat {α : Type} {l : List α} {r : Int} (h0 : 0 ≤ r) (h1 : r < l.length) : ∃ c, c ∈ l ∧ getI l r = some c := by
  have hr : r.toNat < l.length := by omega
  refine ⟨l[r.toNat], List.getElem_mem hr, ?_⟩
  unfold getI ixI
  rw [if_pos h0, if_pos h1]
  show l[r.toNat]? = _
  rw [List.getElem?_eq_getElem hr]
end F
end

section
set_option linter.all false
set_option autoImplicit false
set_option maxRecDepth 100000
/-! facts for running plain defs, for every law -/
namespace F
abbrev bg (a m : Int) : O := .fl [.int a, .int m]
theorem ixI20 : ixI 2 0 = some 0 := rfl
theorem ixI21 : ixI 2 1 = some 1 := rfl
theorem bg0 (a m : Int) : ixD (.lst [.int a, .int m]) (.int 0) = some (.int a) := rfl
theorem bg1 (a m : Int) : ixD (.lst [.int a, .int m]) (.int 1) = some (.int m) := rfl
theorem int_int (i : Int) : intD [.int i] = some (.int i) := rfl
theorem int_bl (b : Bool) : intD [.bl b] = some (.int (if b then 1 else 0)) := rfl
theorem add_int (i j : Int) : addD (.int i) (.int j) = some (.int (i + j)) := rfl
theorem addI_int (i j : Int) : addI (.int i) (.int j) = some (.int (i + j)) := rfl
theorem sub_int (i j : Int) : subD (.int i) (.int j) = some (.int (i - j)) := rfl
theorem mod_ok (i j : Int) (h : 0 < j) : modD (.int i) (.int j) = some (.int (i % j)) := if_pos h
theorem div_ok (i j : Int) (h : 0 < j) (h2 : j < 1073741824) : divD (.int i) (.int j) = some (.int (i / j)) := if_pos ⟨h, h2⟩
theorem mulOk_r (i j : Int) (h : -18446744073709551616 < j) (h2 : j < 18446744073709551616) : mulD (.int i) (.int j) = some (.int (i * j)) := if_pos (by simp [mulOk, h, h2])
theorem mulOk_l (i j : Int) (h : -18446744073709551616 < i) (h2 : i < 18446744073709551616) : mulD (.int i) (.int j) = some (.int (i * j)) := if_pos (by simp [mulOk, h, h2])
theorem lt_int (i j : Int) : ltD (.int i) (.int j) = some (.bl (decide (i < j))) := rfl
theorem gt_int (i j : Int) : gtD (.int i) (.int j) = some (.bl (decide (j < i))) := rfl
theorem ge_int (i j : Int) : geD (.int i) (.int j) = some (.bl (decide (j ≤ i))) := rfl
theorem eq_int (i j : Int) : eqD (.int i) (.int j) = some (.bl (i == j)) := rfl
theorem eq_strs (x y : List Nat) : eqD (.str x) (.str y) = some (.bl (x == y)) := rfl
theorem abs_int (i : Int) : absD [.int i] = some (.int (if i < 0 then -i else i)) := rfl
theorem pow18 : powD (.int 10) (.int 18) = some (.int 1000000000000000000) := by rfl
theorem max_int (i j : Int) : max2D [.int i, .int j] = some (.int (if j > i then j else i)) := rfl
theorem min_int (i j : Int) : min2D [.int i, .int j] = some (.int (if j < i then j else i)) := rfl
theorem len_str (x : List Nat) : lenD [.str x] = some (.int (x.length : Nat)) := rfl
theorem len_lst (l : List F.D) : lenD [.lst l] = some (.int (l.length : Nat)) := rfl
theorem in_ch (c : Nat) (y : List Nat) : inD (.str [c]) (.str y) = some (.bl (decide (c ∈ y))) := rfl
theorem nin_ch (c : Nat) (y : List Nat) : ninD (.str [c]) (.str y) = some (.bl (!decide (c ∈ y))) := rfl
theorem is_non (d : F.D) : isD d .non = some (.bl (isNone d)) := by cases d <;> rfl
def chD (c : Nat) : F.D := .str [c]
theorem itS_x (x : List Nat) : itS (.str x) = some (x.map chD) := rfl
theorem itES_x (x : List Nat) : itES (.str x) = some (enumF 0 (x.map chD)) := rfl
theorem itL_x (l : List F.D) : itL (.lst l) = some l := rfl
theorem joinN_1 : ∀ x : List Nat, joinN [] (x.map fun c => [c]) = x
  | [] => rfl
  | [k] => rfl
  | k :: q :: x => by
    have := joinN_1 (q :: x)
    show [k] ++ ([] ++ joinN [] ((q :: x).map fun k => [k])) = _
    rw [this]
    rfl
theorem sum_1 : ∀ x : List Nat, ((x.map fun k => [k]).map List.length).sum = x.length
  | [] => rfl
  | k :: x => by
    have := sum_1 x
    simp only [List.map_cons, List.sum_cons, List.length_cons, List.length_nil] at this ⊢
    omega
theorem strs_1 : ∀ x : List Nat, strsOf (x.map chD) = some (x.map fun c => [c])
  | [] => rfl
  | c :: x => by
    show (strsOf (x.map chD)).map ([c] :: ·) = _
    rw [strs_1 x]
    rfl
theorem join_1 (x : List Nat) (h : x.length ≤ 1000000) : joinD (.str []) (.lst (x.map chD)) = some (.str x) := by
  show ((strsOf (x.map chD)).bind fun xs => if (xs.map List.length).sum + xs.length * 0 ≤ F.lim then some (F.D.str (joinN [] xs)) else none) = _
  rw [strs_1]
  show (if ((x.map fun k => [k]).map List.length).sum + _ * 0 ≤ F.lim then some (F.D.str (joinN [] (x.map fun k => [k]))) else none) = _
  rw [sum_1, Nat.mul_zero, Nat.add_zero, if_pos (Nat.le_trans h (by decide)), joinN_1]
theorem cut_to {α : Type} (l : List α) (c : Nat) (h : c ≤ l.length) : cut l none (some (c : Int)) = l.take c := by
  unfold cut
  have h1 : cutI l.length l.length (some (c : Int)) = c := by
    show (if (c : Int) < 0 then ((c : Int) + (l.length : Int)).toNat else min (c : Int).toNat l.length) = _
    rw [if_neg (by omega)]
    omega
  rw [h1]
  rfl
theorem cut_fr {α : Type} (l : List α) (c : Nat) (h : c ≤ l.length) : cut l (some (c : Int)) none = l.drop c := by
  unfold cut
  have h1 : cutI l.length 0 (some (c : Int)) = c := by
    show (if (c : Int) < 0 then ((c : Int) + (l.length : Int)).toNat else min (c : Int).toNat l.length) = _
    rw [if_neg (by omega)]
    omega
  rw [h1, show cutI l.length l.length none = l.length from rfl]
  exact List.take_of_length_le (by rw [List.length_drop]; omega)
theorem ixD_0 (a : F.D) (l : List F.D) : ixD (.lst (a :: l)) (.int 0) = some a := by
  show getI (a :: l) 0 = _
  unfold getI ixI
  rw [if_pos (by decide), if_pos (by simp)]
  rfl
/-- an index or None -/
def optD : Option Nat → F.D
  | none => .non
  | some n => .int n
theorem optD_non (o : Option Nat) : isNone (optD o) = o.isNone := by cases o <;> rfl
theorem repN_eq {α : Type} (c : α) : ∀ n, repN [c] n = List.replicate n c
  | 0 => rfl
  | n + 1 => by rw [repN, repN_eq c n]; rfl
end F
end

section
set_option linter.all false
set_option autoImplicit false
set_option maxRecDepth 100000
/-! lists as tables of functions; runs of places -/
namespace F
def tab (n : Nat) (f : Nat → F.D) : List F.D := (List.range n).map f
theorem tab_len (n : Nat) (f : Nat → F.D) : (tab n f).length = n := by simp [tab]
theorem tab_succ (n : Nat) (f : Nat → F.D) : tab (n + 1) f = tab n f ++ [f n] := by simp [tab, List.range_succ]
theorem tab_get {n i : Nat} (f : Nat → F.D) (h : i < n) : (tab n f)[i]? = some (f i) := by simp [tab, List.getElem?_map, List.getElem?_range h]
theorem tab_none {n i : Nat} (f : Nat → F.D) (h : n ≤ i) : (tab n f)[i]? = none := by rw [List.getElem?_eq_none]; rw [tab_len]; exact h
theorem tab_congr {n : Nat} {f g : Nat → F.D} (h : ∀ i, i < n → f i = g i) : tab n f = tab n g := by
  unfold tab
  exact List.map_congr_left fun i hi => h i (List.mem_range.mp hi)
theorem tab_of {l : List F.D} {n : Nat} {f : Nat → F.D} (hl : l.length = n) (h : ∀ i, i < n → l[i]? = some (f i)) : l = tab n f := by
  apply List.ext_getElem?
  intro i
  by_cases hi : i < n
  · rw [h i hi, tab_get f hi]
  · rw [tab_none f (by omega), List.getElem?_eq_none]
    omega
theorem str_tab (x : List Nat) : x.map chD = tab x.length fun i => chD (x.getD i 0) := tab_of (by simp) fun i hi => by
  rw [List.getElem?_map, List.getElem?_eq_getElem hi, List.getD_eq_getElem?_getD, List.getElem?_eq_getElem hi]
  rfl
theorem enum_app (l : List F.D) (d : F.D) : ∀ n, enumF n (l ++ [d]) = enumF n l ++ [.tup [.int ((n + l.length : Nat)), d]] := by
  induction l with
  | nil => intro n; rfl
  | cons a l ih =>
    intro n
    rw [List.cons_append, enumF, enumF, ih]
    simp only [List.length_cons, List.cons_append, List.cons.injEq, true_and]
    rw [show n + 1 + l.length = n + (l.length + 1) by omega]
theorem enum_tab (n : Nat) (f : Nat → F.D) : enumF 0 (tab n f) = (List.range n).map fun i => F.D.tup [.int (i : Nat), f i] := by
  induction n with
  | zero => rfl
  | succ n ih => rw [tab_succ, enum_app, ih, List.range_succ, List.map_append, tab_len, Nat.zero_add]; rfl
theorem ix_tab {n i : Nat} (f : Nat → F.D) (h : i < n) : ixD (.lst (tab n f)) (.int (i : Nat)) = some (f i) := by
  show getI (tab n f) (i : Int) = _
  unfold getI ixI
  rw [if_pos (by omega), if_pos (by rw [tab_len]; omega)]
  show (tab n f)[((i : Nat) : Int).toNat]? = _
  rw [Int.toNat_natCast, tab_get f h]
theorem ix_tabP {n i : Nat} (f : Nat → F.D) (h0 : 0 < i) (h : i ≤ n) : ixD (.lst (tab n f)) (.int ((i : Nat) - 1 : Int)) = some (f (i - 1)) := by
  rw [show ((i : Nat) : Int) - 1 = ((i - 1 : Nat) : Int) by omega]
  exact ix_tab f (by omega)
theorem set_tab {n i : Nat} (f : Nat → F.D) (v : F.D) (h : i < n) : (tab n f).set i v = tab n fun j => if j = i then v else f j := tab_of (by rw [List.length_set, tab_len]) fun j hj => by
  rw [List.getElem?_set, tab_len]
  by_cases e : i = j
  · subst e
    rw [if_pos rfl, if_pos h, if_pos rfl]
  · rw [if_neg e, tab_get f hj, if_neg fun z => e z.symm]
theorem take_tab {n i : Nat} (f : Nat → F.D) (h : i ≤ n) : (tab n f).take i = tab i f := tab_of (by rw [List.length_take, tab_len]; omega) fun j hj => by
  rw [List.getElem?_take, if_pos hj, tab_get f (by omega)]
theorem drop_tab {n i : Nat} (f : Nat → F.D) (h : i ≤ n) : (tab n f).drop i = tab (n - i) fun j => f (i + j) := tab_of (by rw [List.length_drop, tab_len]) fun j hj => by
  rw [List.getElem?_drop, tab_get f (by omega)]
theorem fill_tab {n a b : Nat} (f : Nat → F.D) (v : F.D) (h1 : a ≤ b) (h2 : b ≤ n) : (tab n f).take a ++ List.replicate (b - a) v ++ (tab n f).drop b = tab n fun j => if a ≤ j ∧ j < b then v else f j := by
  refine tab_of (by simp [tab_len]; omega) fun j hj => ?_
  by_cases c1 : j < a
  · rw [if_neg (by omega), List.getElem?_append_left (by simp [tab_len]; omega), List.getElem?_append_left (by simp [tab_len]; omega), List.getElem?_take, if_pos c1, tab_get f hj]
  · by_cases c2 : j < b
    · rw [if_pos ⟨by omega, c2⟩, List.getElem?_append_left (by simp [tab_len]; omega), List.getElem?_append_right (by simp [tab_len]; omega), List.getElem?_replicate, if_pos (by simp [tab_len]; omega)]
    · rw [if_neg (by omega), List.getElem?_append_right (by simp [tab_len]; omega), List.getElem?_drop, tab_get f (by simp [tab_len]; omega)]
      congr 2
      simp [tab_len]
      omega
theorem zip_same {l : List Nat} {f h : Nat → F.D} : zipF (l.map f) (l.map h) = l.map fun i => F.D.tup [f i, h i] := by
  induction l with
  | nil => rfl
  | cons a l ih => rw [List.map_cons, List.map_cons, zipF, ih]; rfl
/-- a loop over the first n numbers, or over what they tell -/
theorem for_rng {t : Tg} {body : MS} {g : Nat → Env} {enc : Nat → F.D} {n : Nat} (h : ∀ i, i < n → ∃ e1, t.put (enc i) (g i) = some e1 ∧ body e1 = .nx (g (i + 1))) : forL t body ((List.range n).map enc) (g 0) = .nx (g n) := by
  have go : ∀ k i, i + k = n → forL t body ((List.range' i k).map enc) (g i) = .nx (g n) := by
    intro k
    induction k with
    | zero =>
      intro i e
      rw [show n = i by omega]
      rfl
    | succ k ih =>
      intro i e
      obtain ⟨e1, h1, h2⟩ := h i (by omega)
      rw [List.range'_succ, List.map_cons, for_cons h1 h2]
      exact ih (i + 1) (by omega)
  have := go n 0 (by omega)
  rw [List.range_eq_range']
  exact this
/-- .. from a to b -/
theorem for_rng2 {t : Tg} {body : MS} {g : Nat → Env} {enc : Nat → F.D} {a n : Nat} (h : ∀ i, a ≤ i → i < a + n → ∃ e1, t.put (enc i) (g i) = some e1 ∧ body e1 = .nx (g (i + 1))) : forL t body ((List.range' a n).map enc) (g a) = .nx (g (a + n)) := by
  induction n generalizing a with
  | zero => rfl
  | succ n ih =>
    obtain ⟨e1, h1, h2⟩ := h a (by omega) (by omega)
    rw [List.range'_succ, List.map_cons, for_cons h1 h2]
    have := ih (a := a + 1) fun i q1 q2 => h i (by omega) (by omega)
    rw [show a + 1 + n = a + (n + 1) by omega] at this
    exact this
theorem rngF_r (a : Nat) : ∀ n, rngF (a : Nat) n = (List.range' a n).map fun i => F.D.int (i : Nat) := by
  intro n
  induction n generalizing a with
  | zero => rfl
  | succ n ih =>
    rw [List.range'_succ, List.map_cons, rngF, ← ih (a + 1)]
    rfl
/-! ### runs -/
def lo (p : Nat → Bool) : Nat → Nat
  | 0 => 0
  | i + 1 => if p i = true then lo p i else i + 1
def hif (p : Nat → Bool) : Nat → Nat → Nat
  | 0, i => i
  | m + 1, i => if p i = true then hif p m (i + 1) else i
def opn (p : Nat → Bool) : Nat → Bool
  | 0 => false
  | i + 1 => p i
def runs (p : Nat → Bool) : Nat → List (Nat × Nat)
  | 0 => []
  | i + 1 => if p i = true then runs p i else if opn p i = true then runs p i ++ [(lo p i, i)] else runs p i
theorem lo_le (p : Nat → Bool) : ∀ i, lo p i ≤ i
  | 0 => Nat.le_refl _
  | i + 1 => by
    have := lo_le p i
    unfold lo
    split <;> omega
theorem lo_in {p : Nat → Bool} : ∀ {i j : Nat}, lo p i ≤ j → j < i → p j = true
  | 0, j, _, h => by omega
  | i + 1, j, h1, h2 => by
    unfold lo at h1
    by_cases q : p i = true
    · rw [if_pos q] at h1
      by_cases e : j = i
      · rw [e]
        exact q
      · exact lo_in h1 (by omega)
    · rw [if_neg q] at h1
      omega
theorem lo_eq {p : Nat → Bool} : ∀ {i j : Nat}, lo p i ≤ j → j ≤ i → lo p j = lo p i
  | 0, j, _, h => by rw [show j = 0 by omega]
  | i + 1, j, h1, h2 => by
    by_cases e : j = i + 1
    · rw [e]
    · have e2 : lo p (i + 1) = lo p i := by
        have : lo p (i + 1) = if p i = true then lo p i else i + 1 := rfl
        rw [this] at h1 ⊢
        by_cases q : p i = true
        · rw [if_pos q]
        · rw [if_neg q] at h1
          omega
      rw [e2] at h1 ⊢
      exact lo_eq h1 (by omega)
theorem hi_eq {p : Nat → Bool} {i : Nat} : ∀ {m j : Nat}, (∀ k, j ≤ k → k < i → p k = true) → j ≤ i → i ≤ j + m → (i < j + m → p i = false) → hif p m j = i
  | 0, j, _, h1, h2, _ => by
    show j = i
    omega
  | m + 1, j, hp, h1, h2, h3 => by
    unfold hif
    by_cases e : j = i
    · subst e
      rw [if_neg (by rw [h3 (by omega)]; decide)]
    · rw [if_pos (hp j (Nat.le_refl _) (by omega))]
      exact hi_eq (fun k q1 q2 => hp k (by omega) q2) (by omega) (by omega) fun q => h3 (by omega)
theorem runs_mem {p : Nat → Bool} : ∀ {i : Nat} {ab : Nat × Nat}, ab ∈ runs p i → ab.1 < ab.2 ∧ ab.2 < i
  | 0, ab, h => by cases h
  | i + 1, ab, h => by
    unfold runs at h
    split at h
    · have := runs_mem h
      omega
    · split at h
      · rename_i q
        rcases List.mem_append.mp h with h | h
        · have := runs_mem h
          omega
        · rw [List.mem_singleton.mp h]
          refine ⟨?_, Nat.lt_succ_self _⟩
          cases i with
          | zero => cases q
          | succ k =>
            have q : p k = true := q
            show lo p (k + 1) < k + 1
            unfold lo
            rw [if_pos q]
            have := lo_le p k
            omega
      · have := runs_mem h
        omega
def fillF {α : Type} (V : Nat → Nat → Option α) (f : Nat → α) (ab : Nat × Nat) : Nat → α := fun j => if ab.1 ≤ j ∧ j < ab.2 then (V ab.1 ab.2).getD (f j) else f j
theorem fill_runs {α : Type} {V : Nat → Nat → Option α} {p : Nat → Bool} {n : Nat} (hp : ∀ j, n ≤ j → p j = false) (f : Nat → α) : ∀ i, i ≤ n + 1 → ∀ j, ((runs p i).foldl (fillF V) f) j = if p j = true ∧ j < lo p i then (V (lo p j) (hif p (n - j) j)).getD (f j) else f j
  | 0, _, j => by
    rw [if_neg (by show ¬ (_ ∧ j < 0); omega)]
    rfl
  | i + 1, hi, j => by
    have ih := fill_runs (V := V) hp f i (by omega) j
    have hl := lo_le p i
    have el : lo p (i + 1) = if p i = true then lo p i else i + 1 := rfl
    have er : runs p (i + 1) = if p i = true then runs p i else if opn p i = true then runs p i ++ [(lo p i, i)] else runs p i := rfl
    rw [el, er]
    by_cases q : p i = true
    · rw [if_pos q, if_pos q]
      exact ih
    · rw [if_neg q, if_neg q]
      by_cases o : opn p i = true
      · rw [if_pos o, List.foldl_append]
        show (if lo p i ≤ j ∧ j < i then (V (lo p i) i).getD ((runs p i).foldl (fillF V) f j) else (runs p i).foldl (fillF V) f j) = _
        by_cases c : lo p i ≤ j ∧ j < i
        · have pj := lo_in c.1 c.2
          rw [if_pos c, if_pos ⟨pj, by omega⟩, lo_eq c.1 (by omega), hi_eq (i := i) (fun k q1 q2 => lo_in (by omega) q2) (by omega) (by omega) (fun _ => by cases z : p i with | true => exact absurd z q | false => rfl), ih, if_neg (by omega)]
        · rw [if_neg c, ih]
          by_cases pj : p j = true
          · by_cases c2 : j < lo p i
            · rw [if_pos ⟨pj, c2⟩, if_pos ⟨pj, by omega⟩]
            · rw [if_neg fun z => c2 z.2, if_neg fun z => ?_]
              have : j ≠ i := fun e => q (e ▸ pj)
              omega
          · rw [if_neg fun z => pj z.1, if_neg fun z => pj z.1]
      · rw [if_neg o]
        have li : lo p i = i := by
          cases i with
          | zero => rfl
          | succ k =>
            have o : ¬ p k = true := o
            show (if p k = true then lo p k else k + 1) = _
            rw [if_neg o]
        rw [ih, li]
        by_cases pj : p j = true
        · have : j ≠ i := fun e => q (e ▸ pj)
          by_cases c2 : j < i
          · rw [if_pos ⟨pj, c2⟩, if_pos ⟨pj, by omega⟩]
          · rw [if_neg fun z => c2 z.2, if_neg fun z => by omega]
        · rw [if_neg fun z => pj z.1, if_neg fun z => pj z.1]
theorem fill_all {α : Type} {V : Nat → Nat → Option α} {p : Nat → Bool} {n : Nat} (hp : ∀ j, n ≤ j → p j = false) (f : Nat → α) {j : Nat} (hj : j < n) : ((runs p (n + 1)).foldl (fillF V) f) j = if p j = true then (V (lo p j) (hif p (n - j) j)).getD (f j) else f j := by
  rw [fill_runs hp f (n + 1) (Nat.le_refl _) j]
  have : lo p (n + 1) = n + 1 := by
    show (if p n = true then lo p n else n + 1) = _
    rw [if_neg (by rw [hp n (Nat.le_refl _)]; decide)]
  rw [this]
  by_cases pj : p j = true
  · rw [if_pos ⟨pj, by omega⟩, if_pos pj]
  · rw [if_neg fun z => pj z.1, if_neg pj]
end F
end

section
set_option Elab.async false
set_option linter.all false
set_option autoImplicit false
set_option maxRecDepth 100000
set_option maxHeartbeats 0

namespace F
open PySem PySem.Spec PyProof.Rows L2
def top (i : Nat) : Stmt := PySem.Challenge.pw_holedlines_k23_levels_of_parts_by_classe.main.body.getD i (.Pass ⟨0, 0, 0, 0⟩)
def c_BEGINS : List Nat := [62, 60, 94]
def c_CLASSES : List Nat := [76, 82, 65, 68, 83, 84, 78]
def c_EASTERN : List Nat := [101, 97, 115, 116, 101, 114, 110]
def c_END : List Nat := [61]
def c_KNOWN : List Nat := [97, 98, 99, 100, 101, 102, 103, 104, 105, 106, 107, 108, 109, 110, 111, 112, 113, 114, 115, 116, 117, 118, 119, 120, 121, 122, 43, 65, 66, 67, 68, 69, 70, 71, 72, 73, 74, 75, 76, 77, 42, 78, 79, 80, 81, 82, 83, 84, 85, 86, 87, 88, 89, 90, 48, 49, 50, 51, 52, 53, 54, 55, 56, 57, 44, 46, 58, 36, 35, 32, 33, 63, 45, 40, 41, 91, 93, 62, 60, 94, 61]
def c_LEFT : List Nat := [108, 101, 102, 116]
def c_PLAIN : List Nat := [112, 108, 97, 105, 110]
def c_RIGHT : List Nat := [114, 105, 103, 104, 116]
def c_STRONG : List Nat := [76, 82, 65]
def d__law_bag : He.DefD := ⟨("_law_bag", none), "_law_bag", "_law_bag", defArgs (top 32), defBody (top 32), defScope (top 32), [], []⟩
def d__law_take : He.DefD := ⟨("_law_take", none), "_law_take", "_law_take", defArgs (top 33), defBody (top 33), defScope (top 33), [], []⟩
def d_first_unknown : He.DefD := ⟨("first_unknown", none), "first_unknown", "first_unknown", defArgs (top 12), defBody (top 12), defScope (top 12), [], []⟩
def d_overfull : He.DefD := ⟨("overfull", none), "overfull", "overfull", defArgs (top 11), defBody (top 11), defScope (top 11), [], []⟩
def d_first_fault : He.DefD := ⟨("first_fault", none), "first_fault", "first_fault", defArgs (top 13), defBody (top 13), defScope (top 13), [], []⟩
def d_need_text : He.DefD := ⟨("need_text", none), "need_text", "need_text", defArgs (top 14), defBody (top 14), defScope (top 14), [.str (sS c_KNOWN)], []⟩
def d_need_direction : He.DefD := ⟨("need_direction", none), "need_direction", "need_direction", defArgs (top 19), defBody (top 19), defScope (top 19), [.glo "DIRECTIONS"], []⟩
def d_strong_before : He.DefD := ⟨("strong_before", none), "strong_before", "strong_before", defArgs (top 24), defBody (top 24), defScope (top 24), [], []⟩
def d_intervals : He.DefD := ⟨("intervals", none), "intervals", "intervals", defArgs (top 26), defBody (top 26), defScope (top 26), [], []⟩
def d_signs_joined : He.DefD := ⟨("signs_joined", none), "signs_joined", "signs_joined", defArgs (top 27), defBody (top 27), defScope (top 27), [], []⟩
def d_digits_told : He.DefD := ⟨("digits_told", none), "digits_told", "digits_told", defArgs (top 25), defBody (top 25), defScope (top 25), [], []⟩
def d_directions_told : He.DefD := ⟨("directions_told", none), "directions_told", "directions_told", defArgs (top 28), defBody (top 28), defScope (top 28), [], []⟩
def d_resolved : He.DefD := ⟨("resolved", none), "resolved", "resolved", defArgs (top 29), defBody (top 29), defScope (top 29), [], []⟩
def d_relative_levels : He.DefD := ⟨("relative_levels", none), "relative_levels", "relative_levels", defArgs (top 30), defBody (top 30), defScope (top 30), [], []⟩
def d__law_refused : He.DefD := ⟨("_law_refused", none), "_law_refused", "_law_refused", defArgs (top 36), defBody (top 36), defScope (top 36), [], []⟩
def d__law_refusals_right : He.DefD := ⟨("_law_refusals_right", none), "_law_refusals_right", "_law_refusals_right", defArgs (top 37), defBody (top 37), defScope (top 37), [], []⟩
def d__law_digits : He.DefD := ⟨("_law_digits", none), "_law_digits", "_law_digits", defArgs (top 34), defBody (top 34), defScope (top 34), [], []⟩
def d__law_relative : He.DefD := ⟨("_law_relative", none), "_law_relative", "_law_relative", defArgs (top 35), defBody (top 35), defScope (top 35), [], []⟩
def d_law : He.DefD := ⟨("law", none), "law", "law", defArgs (top 38), defBody (top 38), defScope (top 38), [], []⟩
def mt_BadText : Stmt := (C8.clsBody (top 1)).getD 0 (.Pass ⟨0, 0, 0, 0⟩)
def di_BadText : He.DefD := ⟨("BadText", some "__init__"), "__init__", "BadText.__init__", defArgs mt_BadText, defBody mt_BadText, defScope mt_BadText, [], []⟩
def mt_BadWord : Stmt := (C8.clsBody (top 2)).getD 0 (.Pass ⟨0, 0, 0, 0⟩)
def di_BadWord : He.DefD := ⟨("BadWord", some "__init__"), "__init__", "BadWord.__init__", defArgs mt_BadWord, defBody mt_BadWord, defScope mt_BadWord, [], []⟩
def fn : List He.DefD := [d__law_bag, d__law_take, d_first_unknown, d_overfull, d_first_fault, d_need_text, d_need_direction, d_strong_before, d_intervals, d_signs_joined, d_digits_told, d_directions_told, d_resolved, d_relative_levels, d__law_refused, d__law_refusals_right, d__law_digits, d__law_relative, d_law, di_BadText, di_BadWord]
def k_DIGITS : List (List Nat) := [[112, 108, 97, 105, 110], [101, 97, 115, 116, 101, 114, 110]]
abbrev c_DIGITS : List D := strD k_DIGITS
def fa : List He.Fa := [.glo "_law_bag", .glo "_law_take", .glo "first_unknown", .glo "overfull", .glo "first_fault", .glo "need_text", .glo "need_direction", .glo "strong_before", .glo "intervals", .glo "signs_joined", .glo "digits_told", .glo "directions_told", .glo "resolved", .glo "relative_levels", .glo "_law_refused", .glo "_law_refusals_right", .glo "_law_digits", .glo "_law_relative", .glo "law", .glo "BadText", .glo "BadWord", .noat "BadText" "index", .noat "BadWord" "word", .meth "BadText" "__init__", .meth "BadWord" "__init__", .free "ValueError", .free "abs", .free "enumerate", .free "int", .free "isinstance", .free "len", .free "list", .free "max", .free "min", .free "range", .free "repr", .free "str", .free "tuple", .free "zip", .str "BEGINS" (sS c_BEGINS), .str "CLASSES" (sS c_CLASSES), .glo "DIGITS", .str "EASTERN" (sS c_EASTERN), .str "END" (sS c_END), .str "KNOWN" (sS c_KNOWN), .str "LEFT" (sS c_LEFT), .int "MOST_CHARACTERS" 400, .int "MOST_OPEN" 20, .str "PLAIN" (sS c_PLAIN), .str "RIGHT" (sS c_RIGHT), .str "STRONG" (sS c_STRONG)]
def ts : List He.Tab := []
def tf : List He.Defn := [("signs_joined", none), ("directions_told", none)]
def tfq : List (Str × Option Str) := [("signs_joined", some ((("signs_joined" : Str) ++ ".<locals>.") ++ "<lambda>")), ("directions_told", some ((("directions_told" : Str) ++ ".<locals>.") ++ "<lambda>"))]
def tbs (K : PySem.W.Frag) : List (Addr × Option Str) := tfq.map fun p => ((He.cT K (p.1, none)).2, p.2)
theorem tf_of : ∀ q ∈ tfq, ((q.1, none) : He.Defn) ∈ tf := by decide
def exB (K : PySem.W.Frag) : Bool := (He.tupB K "DIGITS" (k_DIGITS.map fun z => .str (sS z))) && (oexB K (He.ga K "BadText")) && (oexB K (He.ga K "BadWord")) && (excB K (He.ga K "BadText")) && (excB K (He.ga K "BadWord")) && (exmB K "BadText" "BadWord" false) && (exmB K "BadWord" "BadWord" true) && (exmB K "BadText" "BadText" true) && (exmB K "BadWord" "BadText" false) && (tabsB1 (tbs K))
def Fx (w : World) (K : PySem.W.Frag) (mg : Str → Option Value) : Prop := ∃ h : Heap, K.In h ∧ h.Ns mainGlobals mg ∧ He.SaysX fa fn ts tf exB w h K
def lE_0 : Expr := (aArg (aIter (aS (defBody (top 27)) 1)) 1)
def lE_1 : Expr := (aArg (aIter (aS (defBody (top 28)) 3)) 1)
def mkL (n : Nat) (c : Addr) : LF := match n with | 0 => lamAt ((("signs_joined" : Str) ++ ".<locals>.") ++ "<lambda>") lE_0 c | 1 => lamAt ((("directions_told" : Str) ++ ".<locals>.") ++ "<lambda>") lE_1 c | _ => lamAt Str.empty noE c
def tb (K : PySem.W.Frag) : Tb := ⟨fun k => match k with | 0 => He.ga K "BadText" | 1 => He.ga K "BadWord" | _ => 0, fun _ => [], fun k => match k with | 0 => "index" | 1 => "word" | _ => Str.empty, tbs K, exL mkL, exL_mono mkL, exL_ref mkL⟩
theorem tbs_mem (K : PySem.W.Frag) {p : Str × Option Str} (h : p ∈ tfq) : ((He.cT K (p.1, none)).2, p.2) ∈ (tb K).tabs := List.mem_map.mpr ⟨p, h, rfl⟩
theorem no9 {K : PySem.W.Frag} : ∀ d v H, ¬ (tb K).ex 9 d v H := fun _ _ _ h => absurd h.1 (by decide)
def Bx (K : PySem.W.Frag) (mg : Str → Option Value) (base : Heap) : Prop := ∀ p ∈ tf, LamX.TabB base mg (He.cT K p).1 (He.cT K p).2
section
variable {P : Program} {w : World} {K : PySem.W.Frag} {mg : Str → Option Value} {base : Heap}
theorem g__law_bag (F : Fx w K mg) : mg "_law_bag" = some (.ref (He.ga K "_law_bag")) := by
  obtain ⟨h, X, G, c⟩ := F
  exact He.glo_ok X G (c.t.d.fact 0 (f := .glo "_law_bag") rfl)
theorem g__law_take (F : Fx w K mg) : mg "_law_take" = some (.ref (He.ga K "_law_take")) := by
  obtain ⟨h, X, G, c⟩ := F
  exact He.glo_ok X G (c.t.d.fact 1 (f := .glo "_law_take") rfl)
theorem g_first_unknown (F : Fx w K mg) : mg "first_unknown" = some (.ref (He.ga K "first_unknown")) := by
  obtain ⟨h, X, G, c⟩ := F
  exact He.glo_ok X G (c.t.d.fact 2 (f := .glo "first_unknown") rfl)
theorem g_overfull (F : Fx w K mg) : mg "overfull" = some (.ref (He.ga K "overfull")) := by
  obtain ⟨h, X, G, c⟩ := F
  exact He.glo_ok X G (c.t.d.fact 3 (f := .glo "overfull") rfl)
theorem g_first_fault (F : Fx w K mg) : mg "first_fault" = some (.ref (He.ga K "first_fault")) := by
  obtain ⟨h, X, G, c⟩ := F
  exact He.glo_ok X G (c.t.d.fact 4 (f := .glo "first_fault") rfl)
theorem g_need_text (F : Fx w K mg) : mg "need_text" = some (.ref (He.ga K "need_text")) := by
  obtain ⟨h, X, G, c⟩ := F
  exact He.glo_ok X G (c.t.d.fact 5 (f := .glo "need_text") rfl)
theorem g_need_direction (F : Fx w K mg) : mg "need_direction" = some (.ref (He.ga K "need_direction")) := by
  obtain ⟨h, X, G, c⟩ := F
  exact He.glo_ok X G (c.t.d.fact 6 (f := .glo "need_direction") rfl)
theorem g_strong_before (F : Fx w K mg) : mg "strong_before" = some (.ref (He.ga K "strong_before")) := by
  obtain ⟨h, X, G, c⟩ := F
  exact He.glo_ok X G (c.t.d.fact 7 (f := .glo "strong_before") rfl)
theorem g_intervals (F : Fx w K mg) : mg "intervals" = some (.ref (He.ga K "intervals")) := by
  obtain ⟨h, X, G, c⟩ := F
  exact He.glo_ok X G (c.t.d.fact 8 (f := .glo "intervals") rfl)
theorem g_signs_joined (F : Fx w K mg) : mg "signs_joined" = some (.ref (He.ga K "signs_joined")) := by
  obtain ⟨h, X, G, c⟩ := F
  exact He.glo_ok X G (c.t.d.fact 9 (f := .glo "signs_joined") rfl)
theorem g_digits_told (F : Fx w K mg) : mg "digits_told" = some (.ref (He.ga K "digits_told")) := by
  obtain ⟨h, X, G, c⟩ := F
  exact He.glo_ok X G (c.t.d.fact 10 (f := .glo "digits_told") rfl)
theorem g_directions_told (F : Fx w K mg) : mg "directions_told" = some (.ref (He.ga K "directions_told")) := by
  obtain ⟨h, X, G, c⟩ := F
  exact He.glo_ok X G (c.t.d.fact 11 (f := .glo "directions_told") rfl)
theorem g_resolved (F : Fx w K mg) : mg "resolved" = some (.ref (He.ga K "resolved")) := by
  obtain ⟨h, X, G, c⟩ := F
  exact He.glo_ok X G (c.t.d.fact 12 (f := .glo "resolved") rfl)
theorem g_relative_levels (F : Fx w K mg) : mg "relative_levels" = some (.ref (He.ga K "relative_levels")) := by
  obtain ⟨h, X, G, c⟩ := F
  exact He.glo_ok X G (c.t.d.fact 13 (f := .glo "relative_levels") rfl)
theorem g__law_refused (F : Fx w K mg) : mg "_law_refused" = some (.ref (He.ga K "_law_refused")) := by
  obtain ⟨h, X, G, c⟩ := F
  exact He.glo_ok X G (c.t.d.fact 14 (f := .glo "_law_refused") rfl)
theorem g__law_refusals_right (F : Fx w K mg) : mg "_law_refusals_right" = some (.ref (He.ga K "_law_refusals_right")) := by
  obtain ⟨h, X, G, c⟩ := F
  exact He.glo_ok X G (c.t.d.fact 15 (f := .glo "_law_refusals_right") rfl)
theorem g__law_digits (F : Fx w K mg) : mg "_law_digits" = some (.ref (He.ga K "_law_digits")) := by
  obtain ⟨h, X, G, c⟩ := F
  exact He.glo_ok X G (c.t.d.fact 16 (f := .glo "_law_digits") rfl)
theorem g__law_relative (F : Fx w K mg) : mg "_law_relative" = some (.ref (He.ga K "_law_relative")) := by
  obtain ⟨h, X, G, c⟩ := F
  exact He.glo_ok X G (c.t.d.fact 17 (f := .glo "_law_relative") rfl)
theorem g_law (F : Fx w K mg) : mg "law" = some (.ref (He.ga K "law")) := by
  obtain ⟨h, X, G, c⟩ := F
  exact He.glo_ok X G (c.t.d.fact 18 (f := .glo "law") rfl)
theorem g_BadText (F : Fx w K mg) : mg "BadText" = some (.ref (He.ga K "BadText")) := by
  obtain ⟨h, X, G, c⟩ := F
  exact He.glo_ok X G (c.t.d.fact 19 (f := .glo "BadText") rfl)
theorem g_BadWord (F : Fx w K mg) : mg "BadWord" = some (.ref (He.ga K "BadWord")) := by
  obtain ⟨h, X, G, c⟩ := F
  exact He.glo_ok X G (c.t.d.fact 20 (f := .glo "BadWord") rfl)
theorem na_BadText (F : Fx w K mg) : PySem.W.findIn K (.ref (He.ga K "BadText")) "index" = some none := by
  obtain ⟨h, X, G, c⟩ := F
  exact He.noat_ok (c.t.d.fact 21 (f := .noat "BadText" "index") rfl)
theorem na_BadWord (F : Fx w K mg) : PySem.W.findIn K (.ref (He.ga K "BadWord")) "word" = some none := by
  obtain ⟨h, X, G, c⟩ := F
  exact He.noat_ok (c.t.d.fact 22 (f := .noat "BadWord" "word") rfl)
theorem me_BadText (F : Fx w K mg) : Meth K (He.ga K "BadText") "__init__" (He.ma K (He.ga K "BadText") "__init__") := by
  obtain ⟨h, X, G, c⟩ := F
  exact He.meth_ok (c.t.d.fact 23 (f := .meth "BadText" "__init__") rfl)
theorem me_BadWord (F : Fx w K mg) : Meth K (He.ga K "BadWord") "__init__" (He.ma K (He.ga K "BadWord") "__init__") := by
  obtain ⟨h, X, G, c⟩ := F
  exact He.meth_ok (c.t.d.fact 24 (f := .meth "BadWord" "__init__") rfl)
theorem n_ValueError (F : Fx w K mg) : mg "ValueError" = none := by
  obtain ⟨h, X, G, c⟩ := F
  exact He.free_ok X G (c.t.d.fact 25 (f := .free "ValueError") rfl)
theorem n_abs (F : Fx w K mg) : mg "abs" = none := by
  obtain ⟨h, X, G, c⟩ := F
  exact He.free_ok X G (c.t.d.fact 26 (f := .free "abs") rfl)
theorem n_enumerate (F : Fx w K mg) : mg "enumerate" = none := by
  obtain ⟨h, X, G, c⟩ := F
  exact He.free_ok X G (c.t.d.fact 27 (f := .free "enumerate") rfl)
theorem n_int (F : Fx w K mg) : mg "int" = none := by
  obtain ⟨h, X, G, c⟩ := F
  exact He.free_ok X G (c.t.d.fact 28 (f := .free "int") rfl)
theorem n_isinstance (F : Fx w K mg) : mg "isinstance" = none := by
  obtain ⟨h, X, G, c⟩ := F
  exact He.free_ok X G (c.t.d.fact 29 (f := .free "isinstance") rfl)
theorem n_len (F : Fx w K mg) : mg "len" = none := by
  obtain ⟨h, X, G, c⟩ := F
  exact He.free_ok X G (c.t.d.fact 30 (f := .free "len") rfl)
theorem n_list (F : Fx w K mg) : mg "list" = none := by
  obtain ⟨h, X, G, c⟩ := F
  exact He.free_ok X G (c.t.d.fact 31 (f := .free "list") rfl)
theorem n_max (F : Fx w K mg) : mg "max" = none := by
  obtain ⟨h, X, G, c⟩ := F
  exact He.free_ok X G (c.t.d.fact 32 (f := .free "max") rfl)
theorem n_min (F : Fx w K mg) : mg "min" = none := by
  obtain ⟨h, X, G, c⟩ := F
  exact He.free_ok X G (c.t.d.fact 33 (f := .free "min") rfl)
theorem n_range (F : Fx w K mg) : mg "range" = none := by
  obtain ⟨h, X, G, c⟩ := F
  exact He.free_ok X G (c.t.d.fact 34 (f := .free "range") rfl)
theorem n_repr (F : Fx w K mg) : mg "repr" = none := by
  obtain ⟨h, X, G, c⟩ := F
  exact He.free_ok X G (c.t.d.fact 35 (f := .free "repr") rfl)
theorem n_str (F : Fx w K mg) : mg "str" = none := by
  obtain ⟨h, X, G, c⟩ := F
  exact He.free_ok X G (c.t.d.fact 36 (f := .free "str") rfl)
theorem n_tuple (F : Fx w K mg) : mg "tuple" = none := by
  obtain ⟨h, X, G, c⟩ := F
  exact He.free_ok X G (c.t.d.fact 37 (f := .free "tuple") rfl)
theorem n_zip (F : Fx w K mg) : mg "zip" = none := by
  obtain ⟨h, X, G, c⟩ := F
  exact He.free_ok X G (c.t.d.fact 38 (f := .free "zip") rfl)
theorem v_BEGINS (F : Fx w K mg) : ∃ u, mg "BEGINS" = some (.str (sS c_BEGINS) u) := by
  obtain ⟨h, X, G, c⟩ := F
  exact He.str_ok X G (c.t.d.fact 39 (f := .str "BEGINS" (sS c_BEGINS)) rfl)
theorem v_CLASSES (F : Fx w K mg) : ∃ u, mg "CLASSES" = some (.str (sS c_CLASSES) u) := by
  obtain ⟨h, X, G, c⟩ := F
  exact He.str_ok X G (c.t.d.fact 40 (f := .str "CLASSES" (sS c_CLASSES)) rfl)
theorem g_DIGITS (F : Fx w K mg) : mg "DIGITS" = some (.ref (He.ga K "DIGITS")) := by
  obtain ⟨h, X, G, c⟩ := F
  exact He.glo_ok X G (c.t.d.fact 41 (f := .glo "DIGITS") rfl)
theorem v_EASTERN (F : Fx w K mg) : ∃ u, mg "EASTERN" = some (.str (sS c_EASTERN) u) := by
  obtain ⟨h, X, G, c⟩ := F
  exact He.str_ok X G (c.t.d.fact 42 (f := .str "EASTERN" (sS c_EASTERN)) rfl)
theorem v_END (F : Fx w K mg) : ∃ u, mg "END" = some (.str (sS c_END) u) := by
  obtain ⟨h, X, G, c⟩ := F
  exact He.str_ok X G (c.t.d.fact 43 (f := .str "END" (sS c_END)) rfl)
theorem v_KNOWN (F : Fx w K mg) : ∃ u, mg "KNOWN" = some (.str (sS c_KNOWN) u) := by
  obtain ⟨h, X, G, c⟩ := F
  exact He.str_ok X G (c.t.d.fact 44 (f := .str "KNOWN" (sS c_KNOWN)) rfl)
theorem v_LEFT (F : Fx w K mg) : ∃ u, mg "LEFT" = some (.str (sS c_LEFT) u) := by
  obtain ⟨h, X, G, c⟩ := F
  exact He.str_ok X G (c.t.d.fact 45 (f := .str "LEFT" (sS c_LEFT)) rfl)
theorem v_MOST_CHARACTERS (F : Fx w K mg) : ∃ u, mg "MOST_CHARACTERS" = some (.int 400 u) := by
  obtain ⟨h, X, G, c⟩ := F
  exact He.int_ok X G (c.t.d.fact 46 (f := .int "MOST_CHARACTERS" 400) rfl)
theorem v_MOST_OPEN (F : Fx w K mg) : ∃ u, mg "MOST_OPEN" = some (.int 20 u) := by
  obtain ⟨h, X, G, c⟩ := F
  exact He.int_ok X G (c.t.d.fact 47 (f := .int "MOST_OPEN" 20) rfl)
theorem v_PLAIN (F : Fx w K mg) : ∃ u, mg "PLAIN" = some (.str (sS c_PLAIN) u) := by
  obtain ⟨h, X, G, c⟩ := F
  exact He.str_ok X G (c.t.d.fact 48 (f := .str "PLAIN" (sS c_PLAIN)) rfl)
theorem v_RIGHT (F : Fx w K mg) : ∃ u, mg "RIGHT" = some (.str (sS c_RIGHT) u) := by
  obtain ⟨h, X, G, c⟩ := F
  exact He.str_ok X G (c.t.d.fact 49 (f := .str "RIGHT" (sS c_RIGHT)) rfl)
theorem v_STRONG (F : Fx w K mg) : ∃ u, mg "STRONG" = some (.str (sS c_STRONG) u) := by
  obtain ⟨h, X, G, c⟩ := F
  exact He.str_ok X G (c.t.d.fact 50 (f := .str "STRONG" (sS c_STRONG)) rfl)
theorem t_DIGITS (F : Fx w K mg) {c : Cn} (hK : c.K = K) (H : Hp) : Dat c H (.tup c_DIGITS) (.ref (He.ga K "DIGITS")) := by
  obtain ⟨h, X, G, q⟩ := F
  exact tab_strs c hK ((He.ba (He.ba (He.ba (He.ba (He.ba (He.ba (He.ba (He.ba (He.ba q.more).1).1).1).1).1).1).1).1).1) (by decide) (by decide) H
theorem fi_BadText (F : Fx w K mg) : ∃ fd, FunD K "__init__" "BadText.__init__" (defArgs mt_BadText) (defBody mt_BadText) (defScope mt_BadText) [] [] (He.ma K (He.ga K "BadText") "__init__") fd := by
  obtain ⟨h, X, G, c⟩ := F
  exact c.t.d.def_ 19 (d := di_BadText) rfl
theorem ox_BadText (F : Fx w K mg) : oexB K (He.ga K "BadText") = true := by
  obtain ⟨h, X, G, q⟩ := F
  exact (He.ba (He.ba (He.ba (He.ba (He.ba (He.ba (He.ba (He.ba (He.ba q.more).1).1).1).1).1).1).1).1).2
theorem xc_BadText (F : Fx w K mg) : XcOk P w K mg base (tb K) 0 "BadText" := by
  obtain ⟨fd, hf⟩ := fi_BadText F
  exact xc_mk (y := "index") hf ⟨rfl, rfl, rfl, by decide +kernel, rfl, by decide +kernel, by decide +kernel⟩ (ox_BadText F) (na_BadText F) (n_ValueError F) (me_BadText F) (g_BadText F) (FunD.bindsN hf fun _ _ _ _ _ _ us hl => match us, hl with | [_, _], _ => rfl) rfl rfl (.inl rfl) (.inl rfl) rfl rfl rfl
theorem fi_BadWord (F : Fx w K mg) : ∃ fd, FunD K "__init__" "BadWord.__init__" (defArgs mt_BadWord) (defBody mt_BadWord) (defScope mt_BadWord) [] [] (He.ma K (He.ga K "BadWord") "__init__") fd := by
  obtain ⟨h, X, G, c⟩ := F
  exact c.t.d.def_ 20 (d := di_BadWord) rfl
theorem ox_BadWord (F : Fx w K mg) : oexB K (He.ga K "BadWord") = true := by
  obtain ⟨h, X, G, q⟩ := F
  exact (He.ba (He.ba (He.ba (He.ba (He.ba (He.ba (He.ba (He.ba q.more).1).1).1).1).1).1).1).2
theorem xc_BadWord (F : Fx w K mg) : XcOk P w K mg base (tb K) 1 "BadWord" := by
  obtain ⟨fd, hf⟩ := fi_BadWord F
  exact xc_mk (y := "word") hf ⟨rfl, rfl, rfl, by decide +kernel, rfl, by decide +kernel, by decide +kernel⟩ (ox_BadWord F) (na_BadWord F) (n_ValueError F) (me_BadWord F) (g_BadWord F) (FunD.bindsN hf fun _ _ _ _ _ _ us hl => match us, hl with | [_, _], _ => rfl) rfl rfl (.inl rfl) (.inl rfl) rfl rfl rfl
theorem xq_BadText (F : Fx w K mg) : excB K (He.ga K "BadText") = true := by
  obtain ⟨h, X, G, q⟩ := F
  exact (He.ba (He.ba (He.ba (He.ba (He.ba (He.ba (He.ba q.more).1).1).1).1).1).1).2
theorem xf_BadText (F : Fx w K mg) : XfC K ((tb K).cls 0) := (exc_of (xq_BadText F)).1
theorem xq_BadWord (F : Fx w K mg) : excB K (He.ga K "BadWord") = true := by
  obtain ⟨h, X, G, q⟩ := F
  exact (He.ba (He.ba (He.ba (He.ba (He.ba (He.ba q.more).1).1).1).1).1).2
theorem xf_BadWord (F : Fx w K mg) : XfC K ((tb K).cls 1) := (exc_of (xq_BadWord F)).1
theorem ex_0 (F : Fx w K mg) : PySem.W.exmOne K (.ref ((tb K).cls 0)) (.ref (He.ga K "BadWord")) = some false := by
  obtain ⟨h, X, G, q⟩ := F
  exact of_decide_eq_true ((He.ba (He.ba (He.ba (He.ba (He.ba q.more).1).1).1).1).2)
theorem ex_1 (F : Fx w K mg) : PySem.W.exmOne K (.ref ((tb K).cls 1)) (.ref (He.ga K "BadWord")) = some true := by
  obtain ⟨h, X, G, q⟩ := F
  exact of_decide_eq_true ((He.ba (He.ba (He.ba (He.ba q.more).1).1).1).2)
theorem ex_2 (F : Fx w K mg) : PySem.W.exmOne K (.ref ((tb K).cls 0)) (.ref (He.ga K "BadText")) = some true := by
  obtain ⟨h, X, G, q⟩ := F
  exact of_decide_eq_true ((He.ba (He.ba (He.ba q.more).1).1).2)
theorem ex_3 (F : Fx w K mg) : PySem.W.exmOne K (.ref ((tb K).cls 1)) (.ref (He.ga K "BadText")) = some false := by
  obtain ⟨h, X, G, q⟩ := F
  exact of_decide_eq_true ((He.ba (He.ba q.more).1).2)
theorem tbs_un (F : Fx w K mg) : ∀ z ∈ (tb K).tabs, ∀ q ∈ (tb K).tabs, z.1 = q.1 → z.2 = q.2 := by
  obtain ⟨h, X, G, q⟩ := F
  exact tabs_un ((He.ba q.more).2)
theorem fd__law_bag (F : Fx w K mg) : ∃ fd, FunD K "_law_bag" "_law_bag" (defArgs (top 32)) (defBody (top 32)) (defScope (top 32)) (d__law_bag.dvs K) (d__law_bag.kws K) (He.ga K "_law_bag") fd := by
  obtain ⟨h, X, G, c⟩ := F
  exact c.t.d.def_ 0 (d := d__law_bag) rfl
theorem fd__law_take (F : Fx w K mg) : ∃ fd, FunD K "_law_take" "_law_take" (defArgs (top 33)) (defBody (top 33)) (defScope (top 33)) (d__law_take.dvs K) (d__law_take.kws K) (He.ga K "_law_take") fd := by
  obtain ⟨h, X, G, c⟩ := F
  exact c.t.d.def_ 1 (d := d__law_take) rfl
theorem fd_first_unknown (F : Fx w K mg) : ∃ fd, FunD K "first_unknown" "first_unknown" (defArgs (top 12)) (defBody (top 12)) (defScope (top 12)) (d_first_unknown.dvs K) (d_first_unknown.kws K) (He.ga K "first_unknown") fd := by
  obtain ⟨h, X, G, c⟩ := F
  exact c.t.d.def_ 2 (d := d_first_unknown) rfl
theorem fd_overfull (F : Fx w K mg) : ∃ fd, FunD K "overfull" "overfull" (defArgs (top 11)) (defBody (top 11)) (defScope (top 11)) (d_overfull.dvs K) (d_overfull.kws K) (He.ga K "overfull") fd := by
  obtain ⟨h, X, G, c⟩ := F
  exact c.t.d.def_ 3 (d := d_overfull) rfl
theorem fd_first_fault (F : Fx w K mg) : ∃ fd, FunD K "first_fault" "first_fault" (defArgs (top 13)) (defBody (top 13)) (defScope (top 13)) (d_first_fault.dvs K) (d_first_fault.kws K) (He.ga K "first_fault") fd := by
  obtain ⟨h, X, G, c⟩ := F
  exact c.t.d.def_ 4 (d := d_first_fault) rfl
theorem fd_need_text (F : Fx w K mg) : ∃ fd, FunD K "need_text" "need_text" (defArgs (top 14)) (defBody (top 14)) (defScope (top 14)) (d_need_text.dvs K) (d_need_text.kws K) (He.ga K "need_text") fd := by
  obtain ⟨h, X, G, c⟩ := F
  exact c.t.d.def_ 5 (d := d_need_text) rfl
theorem fd_need_direction (F : Fx w K mg) : ∃ fd, FunD K "need_direction" "need_direction" (defArgs (top 19)) (defBody (top 19)) (defScope (top 19)) (d_need_direction.dvs K) (d_need_direction.kws K) (He.ga K "need_direction") fd := by
  obtain ⟨h, X, G, c⟩ := F
  exact c.t.d.def_ 6 (d := d_need_direction) rfl
theorem fd_strong_before (F : Fx w K mg) : ∃ fd, FunD K "strong_before" "strong_before" (defArgs (top 24)) (defBody (top 24)) (defScope (top 24)) (d_strong_before.dvs K) (d_strong_before.kws K) (He.ga K "strong_before") fd := by
  obtain ⟨h, X, G, c⟩ := F
  exact c.t.d.def_ 7 (d := d_strong_before) rfl
theorem fd_intervals (F : Fx w K mg) : ∃ fd, FunD K "intervals" "intervals" (defArgs (top 26)) (defBody (top 26)) (defScope (top 26)) (d_intervals.dvs K) (d_intervals.kws K) (He.ga K "intervals") fd := by
  obtain ⟨h, X, G, c⟩ := F
  exact c.t.d.def_ 8 (d := d_intervals) rfl
theorem fd_signs_joined (F : Fx w K mg) : ∃ fd, FunD K "signs_joined" "signs_joined" (defArgs (top 27)) (defBody (top 27)) (defScope (top 27)) (d_signs_joined.dvs K) (d_signs_joined.kws K) (He.ga K "signs_joined") fd := by
  obtain ⟨h, X, G, c⟩ := F
  exact c.t.d.def_ 9 (d := d_signs_joined) rfl
theorem fd_digits_told (F : Fx w K mg) : ∃ fd, FunD K "digits_told" "digits_told" (defArgs (top 25)) (defBody (top 25)) (defScope (top 25)) (d_digits_told.dvs K) (d_digits_told.kws K) (He.ga K "digits_told") fd := by
  obtain ⟨h, X, G, c⟩ := F
  exact c.t.d.def_ 10 (d := d_digits_told) rfl
theorem fd_directions_told (F : Fx w K mg) : ∃ fd, FunD K "directions_told" "directions_told" (defArgs (top 28)) (defBody (top 28)) (defScope (top 28)) (d_directions_told.dvs K) (d_directions_told.kws K) (He.ga K "directions_told") fd := by
  obtain ⟨h, X, G, c⟩ := F
  exact c.t.d.def_ 11 (d := d_directions_told) rfl
theorem fd_resolved (F : Fx w K mg) : ∃ fd, FunD K "resolved" "resolved" (defArgs (top 29)) (defBody (top 29)) (defScope (top 29)) (d_resolved.dvs K) (d_resolved.kws K) (He.ga K "resolved") fd := by
  obtain ⟨h, X, G, c⟩ := F
  exact c.t.d.def_ 12 (d := d_resolved) rfl
theorem fd_relative_levels (F : Fx w K mg) : ∃ fd, FunD K "relative_levels" "relative_levels" (defArgs (top 30)) (defBody (top 30)) (defScope (top 30)) (d_relative_levels.dvs K) (d_relative_levels.kws K) (He.ga K "relative_levels") fd := by
  obtain ⟨h, X, G, c⟩ := F
  exact c.t.d.def_ 13 (d := d_relative_levels) rfl
theorem fd__law_refused (F : Fx w K mg) : ∃ fd, FunD K "_law_refused" "_law_refused" (defArgs (top 36)) (defBody (top 36)) (defScope (top 36)) (d__law_refused.dvs K) (d__law_refused.kws K) (He.ga K "_law_refused") fd := by
  obtain ⟨h, X, G, c⟩ := F
  exact c.t.d.def_ 14 (d := d__law_refused) rfl
theorem fd__law_refusals_right (F : Fx w K mg) : ∃ fd, FunD K "_law_refusals_right" "_law_refusals_right" (defArgs (top 37)) (defBody (top 37)) (defScope (top 37)) (d__law_refusals_right.dvs K) (d__law_refusals_right.kws K) (He.ga K "_law_refusals_right") fd := by
  obtain ⟨h, X, G, c⟩ := F
  exact c.t.d.def_ 15 (d := d__law_refusals_right) rfl
theorem fd__law_digits (F : Fx w K mg) : ∃ fd, FunD K "_law_digits" "_law_digits" (defArgs (top 34)) (defBody (top 34)) (defScope (top 34)) (d__law_digits.dvs K) (d__law_digits.kws K) (He.ga K "_law_digits") fd := by
  obtain ⟨h, X, G, c⟩ := F
  exact c.t.d.def_ 16 (d := d__law_digits) rfl
theorem fd__law_relative (F : Fx w K mg) : ∃ fd, FunD K "_law_relative" "_law_relative" (defArgs (top 35)) (defBody (top 35)) (defScope (top 35)) (d__law_relative.dvs K) (d__law_relative.kws K) (He.ga K "_law_relative") fd := by
  obtain ⟨h, X, G, c⟩ := F
  exact c.t.d.def_ 17 (d := d__law_relative) rfl
theorem fd_law (F : Fx w K mg) : ∃ fd, FunD K "law" "law" (defArgs (top 38)) (defBody (top 38)) (defScope (top 38)) (d_law.dvs K) (d_law.kws K) (He.ga K "law") fd := by
  obtain ⟨h, X, G, c⟩ := F
  exact c.t.d.def_ 18 (d := d_law) rfl
end
section
variable {P : Program} {w : World} {K : PySem.W.Frag} {mg : Str → Option Value} {base : Heap}
def m_l0 : M R := (mOp2 eqD (mVar 0) (mC (.str [84])))
def Z_l0 : Fn := runF (fun i => [0].contains i) 1 0 (sRet m_l0)
theorem lok_0 (F : Fx w K mg) (B : Bx K mg base) (c' : Addr) : LOk P w K mg base (L2.CX P w) 2 (mkL 0 c') 1 (spF (tb K) ⟨K, (tb K).cls, (tb K).fld, (tb K).tabs, (tb K).ex, (tb K).exM, (tb K).exR⟩ Z_l0 1) :=
  lam_F (N := ["kind"]) (ps := ["kind"]) (j := 0) (m := m_l0) (NdefX.nscope_by (sc := lScope lE_0) (by decide +kernel)) (fun i => [0].contains i) rfl rfl Z_l0 (fun _ _ => rfl) (fun pm ctv us hl => match us, hl with | [_], _ => rfl) fun A outer s H f E hr hu => (se_cmp (op_eqP hr.units) v_eq (se_var (pv 0)) (se_str (l := [84])) (nomark _))
def m_l1 : M R := (mOp2 isD (mVar 0) (mC .non))
def Z_l1 : Fn := runF (fun i => [0].contains i) 1 0 (sRet m_l1)
theorem lok_1 (F : Fx w K mg) (B : Bx K mg base) (c' : Addr) : LOk P w K mg base (L2.CX P w) 2 (mkL 1 c') 1 (spF (tb K) ⟨K, (tb K).cls, (tb K).fld, (tb K).tabs, (tb K).ex, (tb K).exM, (tb K).exR⟩ Z_l1 1) :=
  lam_F (N := ["way"]) (ps := ["way"]) (j := 0) (m := m_l1) (NdefX.nscope_by (sc := lScope lE_1) (by decide +kernel)) (fun i => [0].contains i) rfl rfl Z_l1 (fun _ _ => rfl) (fun pm ctv us hl => match us, hl with | [_], _ => rfl) fun A outer s H f E hr hu => (se_cmp op_isN v_isN (se_var (pv 0)) se_non (nomark _))
def Fs : Nat → Fn := fun n => match n with | 0 => Z_l0 | 1 => Z_l1 | _ => nFn
theorem lok (F : Fx w K mg) (B : Bx K mg base) : ∀ n c', LOk P w K mg base (L2.CX P w) 2 (mkL n c') 1 (spF (tb K) ⟨K, (tb K).cls, (tb K).fld, (tb K).tabs, (tb K).ex, (tb K).exM, (tb K).exR⟩ (Fs n) 1)
  | 0, c' => lok_0 F B c'
  | 1, c' => lok_1 F B c'
  | n + 2, c' => lok_none
def N__law_bag : List Str := ["_law_script", "_law_at", "_law_cell", "_law_mixed"]
def m__law_bag : MS := (sSeq (sSet 2 (mC (.int 0)))
  (sSeq (sIf (mTB (mOp2 ltD (mVar 1) (mBi lenD [(mVar 0)]))) (sSet 2 (mOp2 ixD (mVar 0) (mVar 1))) sPass)
  (sSeq (sSet 3 (mOp2 modD (mBi intD [(mOp2 addD (mOp2 addD (mOp2 addD (mOp2 mulD (mOp2 modD (mBi absD [(mVar 2)]) (mC (.int 2147483563))) (mC (.int 48271))) (mOp2 mulD (mOp2 addD (mOp2 modD (mVar 2) (mC (.int 89))) (mC (.int 1))) (mC (.int 7919)))) (mOp2 mulD (mC (.int 104729)) (mVar 1))) (mC (.int 31)))]) (mC (.int 2147483563))))
  (sRet (mLst [(mOp2 mulD (mBi absD [(mVar 2)]) (mBi intD [(mOp2 geD (mBi absD [(mVar 2)]) (mOp2 powD (mC (.int 10)) (mC (.int 18))))])), (mOp2 addD (mVar 3) (mC (.int 1)))])))))
def Z__law_bag : Fn := runF (fun i => [0, 1].contains i) 2 2 m__law_bag
theorem sc__law_bag : FnScope N__law_bag ["_law_script", "_law_at"] (defScope (top 32)) := ⟨rfl, rfl, rfl, by decide +kernel, rfl, by decide +kernel, by decide +kernel⟩
theorem o__law_bag (F : Fx w K mg) (B : Bx K mg base) : ∃ fd, FunD K "_law_bag" "_law_bag" (defArgs (top 32)) (defBody (top 32)) (defScope (top 32)) (d__law_bag.dvs K) (d__law_bag.kws K) (He.ga K "_law_bag") fd ∧ FO P w K mg base (tb K) 1 (He.ga K "_law_bag") fd ["_law_script", "_law_at"] Z__law_bag 2 := by
  obtain ⟨fd, hf⟩ := fd__law_bag F
  refine ⟨fd, hf, fn_F hf sc__law_bag (fun i => [0, 1].contains i) rfl rfl _ (fun _ _ => rfl) fun cdv A outer s H E hc hci hr hu => ?_⟩
  have cdE := code_of hf hc hci
  have tk : Takes (cxOf (L2.CX P w) P w K mg base N__law_bag "_law_bag" (defScope (top 32)) (He.ga K "_law_bag") cdv A outer s H E) (fun cls d _ H => E cls d H) := takes_of rfl rfl rfl rfl
  have nd : N__law_bag.Nodup := sc__law_bag.nd
  have h52 := un52 hr
  have h9 : ∀ d v H, ¬ (tb K).ex 9 d v H := no9
  exact (sss_cons (ss_set (i := 2) rfl nd rfl (by first | exact Or.inl rfl | exact Or.inr rfl) se_int)
  (sss_cons (ss_if (sb_cmp op_ltV v_lt (se_var (pv 1)) (se_bi call_lenV b_len rfl (n_len F) boot_len (sa_cons (se_var (pv 0)) sa_nil)) (nomark _)) (sss_one (ss_set (i := 2) rfl nd rfl (by first | exact Or.inl rfl | exact Or.inr rfl) (se_ix ix_seq v_ix (se_var (pv 0)) (se_var (pv 1)) (fun _ _ => rfl)))) sss_nil)
  (sss_cons (ss_set (i := 3) rfl nd rfl (by first | exact Or.inl rfl | exact Or.inr rfl) (se_op op_mod v_mod (se_ti call_int1 b_int rfl (n_int F) boot_int (sa_cons (se_op op_addV v_add (se_op op_addV v_add (se_op op_addV v_add (se_op op_mul v_mul (se_op op_mod v_mod (se_bi call_abs b_abs rfl (n_abs F) boot_abs (sa_cons (se_var (pv 2)) sa_nil)) se_int) se_int) (se_op op_mul v_mul (se_op op_addV v_add (se_op op_mod v_mod (se_var (pv 2)) se_int) se_int) se_int)) (se_op op_mul v_mul se_int (se_var (pv 1)))) se_int) sa_nil)) se_int))
  (sss_one (ss_ret (se_lst (sd_cons (se_op op_mul v_mul (se_bi call_abs b_abs rfl (n_abs F) boot_abs (sa_cons (se_var (pv 2)) sa_nil)) (se_ti call_int1 b_int rfl (n_int F) boot_int (sa_cons (se_cmp op_ge v_ge (se_bi call_abs b_abs rfl (n_abs F) boot_abs (sa_cons (se_var (pv 2)) sa_nil)) (se_op op_pow v_pow se_int se_int) (nomark _)) sa_nil))) (sd_cons (se_op op_addV v_add (se_var (pv 3)) se_int) sd_nil))))))))
theorem G__law_bag (F : Fx w K mg) (B : Bx K mg base) : FnG P w K mg base (tb K) "_law_bag" 1 2 Z__law_bag [] := by
  obtain ⟨fd, hf, h⟩ := o__law_bag (P := P) (base := base) F B
  exact ⟨_, fd, _, [], [], h, g__law_bag F, hf.kp, FunD.bindsN hf fun _ _ _ _ _ _ us hl => match us, hl with | [_, _], _ => rfl, .nil, fun _ => rfl⟩
def N__law_take : List Str := ["_law_bag_here", "_law_many", "_law_digit"]
def m__law_take : MS := (sSeq (sDrop (sIf (mTB (mOp2 gtD (mOp2 ixD (mVar 0) (mC (.int 0))) (mC (.int 0)))) (sSeq (sSet 2 (mOp2 modD (mBi intD [(mOp2 ixD (mVar 0) (mC (.int 0)))]) (mVar 1)))
  (sSeq (sSto 0 (mC (.int 0)) (mOp2 divD (mOp2 ixD (mVar 0) (mC (.int 0))) (mVar 1)))
  (sRet (mVar 2)))) sPass) [2])
  (sSeq (sSto 0 (mC (.int 1)) (mOp2 modD (mBi intD [(mOp2 addD (mOp2 mulD (mOp2 ixD (mVar 0) (mC (.int 1))) (mC (.int 40692))) (mC (.int 17)))]) (mC (.int 2147483399))))
  (sRet (mOp2 modD (mOp2 divD (mOp2 modD (mBi intD [(mOp2 mulD (mOp2 divD (mOp2 ixD (mVar 0) (mC (.int 1))) (mC (.int 8))) (mC (.int 48271)))]) (mC (.int 2147483629))) (mC (.int 32))) (mVar 1)))))
def Z__law_take : Fn := runF (fun i => [0, 1].contains i) 2 1 m__law_take
theorem sc__law_take : FnScope N__law_take ["_law_bag_here", "_law_many"] (defScope (top 33)) := ⟨rfl, rfl, rfl, by decide +kernel, rfl, by decide +kernel, by decide +kernel⟩
theorem o__law_take (F : Fx w K mg) (B : Bx K mg base) : ∃ fd, FunD K "_law_take" "_law_take" (defArgs (top 33)) (defBody (top 33)) (defScope (top 33)) (d__law_take.dvs K) (d__law_take.kws K) (He.ga K "_law_take") fd ∧ FO P w K mg base (tb K) 1 (He.ga K "_law_take") fd ["_law_bag_here", "_law_many"] Z__law_take 2 := by
  obtain ⟨fd, hf⟩ := fd__law_take F
  refine ⟨fd, hf, fn_F hf sc__law_take (fun i => [0, 1].contains i) rfl rfl _ (fun _ _ => rfl) fun cdv A outer s H E hc hci hr hu => ?_⟩
  have cdE := code_of hf hc hci
  have tk : Takes (cxOf (L2.CX P w) P w K mg base N__law_take "_law_take" (defScope (top 33)) (He.ga K "_law_take") cdv A outer s H E) (fun cls d _ H => E cls d H) := takes_of rfl rfl rfl rfl
  have nd : N__law_take.Nodup := sc__law_take.nd
  have h52 := un52 hr
  have h9 : ∀ d v H, ¬ (tb K).ex 9 d v H := no9
  exact (sss_cons (ss_drop [2] (ss_if (sb_cmp op_gtV v_gt (se_ix ix_seq v_ix (se_var (pv 0)) se_int (fun _ _ => rfl)) se_int (nomark _)) (sss_cons (ss_set (i := 2) rfl nd rfl (by first | exact Or.inl rfl | exact Or.inr rfl) (se_op op_mod v_mod (se_ti call_int1 b_int rfl (n_int F) boot_int (sa_cons (se_ix ix_seq v_ix (se_var (pv 0)) se_int (fun _ _ => rfl)) sa_nil)) (se_var (pv 1))))
  (sss_cons (ss_sto (i := 0) (pv 0) se_int (se_op op_fdiv v_div (se_ix ix_seq v_ix (se_var (pv 0)) se_int (fun _ _ => rfl)) (se_var (pv 1))) (fun _ => rfl))
  (sss_one (ss_ret (se_var (pv 2)))))) sss_nil))
  (sss_cons (ss_sto (i := 0) (pv 0) se_int (se_op op_mod v_mod (se_ti call_int1 b_int rfl (n_int F) boot_int (sa_cons (se_op op_addV v_add (se_op op_mul v_mul (se_ix ix_seq v_ix (se_var (pv 0)) se_int (fun _ _ => rfl)) se_int) se_int) sa_nil)) se_int) (fun _ => rfl))
  (sss_one (ss_ret (se_op op_mod v_mod (se_op op_fdiv v_div (se_op op_mod v_mod (se_ti call_int1 b_int rfl (n_int F) boot_int (sa_cons (se_op op_mul v_mul (se_op op_fdiv v_div (se_ix ix_seq v_ix (se_var (pv 0)) se_int (fun _ _ => rfl)) se_int) se_int) sa_nil)) se_int) se_int) (se_var (pv 1)))))))
theorem G__law_take (F : Fx w K mg) (B : Bx K mg base) : FnG P w K mg base (tb K) "_law_take" 1 2 Z__law_take [] := by
  obtain ⟨fd, hf, h⟩ := o__law_take (P := P) (base := base) F B
  exact ⟨_, fd, _, [], [], h, g__law_take F, hf.kp, FunD.bindsN hf fun _ _ _ _ _ _ us hl => match us, hl with | [_, _], _ => rfl, .nil, fun _ => rfl⟩
def N_first_unknown : List Str := ["text", "unknown", "index", "sign"]
def m_first_unknown : MS := (sSeq (sSet 1 (mLc [2, 3] (.tp [(.nm 2), (.nm 3)]) (mIt itES (mVar 0)) (mTB (mOp2 ninD (mVar 3) (mC (.str c_KNOWN)))) (mVar 2)))
  (sRet (mIf (mTB (mOp2 neD (mVar 1) (mLst []))) (mOp2 ixD (mVar 1) (mC (.int 0))) (mC .non))))
def Z_first_unknown : Fn := runF (fun i => [0].contains i) 1 3 m_first_unknown
theorem sc_first_unknown : FnScope N_first_unknown ["text"] (defScope (top 12)) := ⟨rfl, rfl, rfl, by decide +kernel, rfl, by decide +kernel, by decide +kernel⟩
theorem o_first_unknown (F : Fx w K mg) (B : Bx K mg base) : ∃ fd, FunD K "first_unknown" "first_unknown" (defArgs (top 12)) (defBody (top 12)) (defScope (top 12)) (d_first_unknown.dvs K) (d_first_unknown.kws K) (He.ga K "first_unknown") fd ∧ FO P w K mg base (tb K) 1 (He.ga K "first_unknown") fd ["text"] Z_first_unknown 1 := by
  obtain ⟨fd, hf⟩ := fd_first_unknown F
  refine ⟨fd, hf, fn_F hf sc_first_unknown (fun i => [0].contains i) rfl rfl _ (fun _ _ => rfl) fun cdv A outer s H E hc hci hr hu => ?_⟩
  have cdE := code_of hf hc hci
  have tk : Takes (cxOf (L2.CX P w) P w K mg base N_first_unknown "first_unknown" (defScope (top 12)) (He.ga K "first_unknown") cdv A outer s H E) (fun cls d _ H => E cls d H) := takes_of rfl rfl rfl rfl
  have nd : N_first_unknown.Nodup := sc_first_unknown.nd
  have h52 := un52 hr
  have h9 : ∀ d v H, ¬ (tb K).ex 9 d v H := no9
  exact (sss_cons (ss_setLc (i := 1) (own := [("index", 2), ("sign", 3)]) rfl rfl nd rfl rfl (sw_true rfl rfl rfl (by decide +kernel)) (si_enumS rfl (n_enumerate F) (se_var (pv 0))) (blkOk_by (own := [("index", 2), ("sign", 3)]) (N := N_first_unknown) (sc := defScope (top 12)) (by decide +kernel)) (fun _ _ _ _ _ => (sg_tup rfl (sgs_cons (sg_name (i := 2) rfl nd rfl (by first | exact Or.inl rfl | exact Or.inr rfl)) (sgs_cons (sg_name (i := 3) rfl nd rfl (by first | exact Or.inl rfl | exact Or.inr rfl)) sgs_nil)))) (fun _ _ _ _ _ => (sts_one (sb_cmp (op_notInV hr.units) v_notIn (se_var (pv 3)) (se_gstr rfl (v_KNOWN F)) (by with_unfolding_all rfl)))) (fun _ _ _ _ _ => (se_var (pv 2))))
  (sss_one (ss_ret (se_if (sb_cmp (op_neP hr.units) v_ne (se_var (pv 1)) (se_lst sd_nil) (nomark _)) (se_ix ix_seq v_ix (se_var (pv 1)) se_int (fun _ _ => rfl)) se_non))))
theorem G_first_unknown (F : Fx w K mg) (B : Bx K mg base) : FnG P w K mg base (tb K) "first_unknown" 1 1 Z_first_unknown [] := by
  obtain ⟨fd, hf, h⟩ := o_first_unknown (P := P) (base := base) F B
  exact ⟨_, fd, _, [], [], h, g_first_unknown F, hf.kp, FunD.bindsN hf fun _ _ _ _ _ _ us hl => match us, hl with | [_], _ => rfl, .nil, fun _ => rfl⟩
def N_overfull : List Str := ["text", "most", "opened", "index", "character"]
abbrev b_overfull_0 : MS := (sDrop (sIf (mTB (mOp2 inD (mVar 4) (mC (.str c_BEGINS)))) (sSeq (sIf (mTB (mOp2 eqD (mVar 2) (mVar 1))) (sRet (mVar 3)) sPass)
  (sAug 2 addI (mC (.int 1)))) (sIf (mTB (mOp2 eqD (mVar 4) (mC (.str c_END)))) (sSet 2 (mBi max2D [(mC (.int 0)), (mOp2 subD (mVar 2) (mC (.int 1)))])) sPass)) [3, 4])
def m_overfull : MS := (sSeq (sSet 2 (mC (.int 0)))
  (sSeq (sDrop (sFor (.tp [(.nm 3), (.nm 4)]) (mIt itES (mVar 0)) b_overfull_0) [2, 3, 4])
  (sRet (mC .non))))
def Z_overfull : Fn := runF (fun i => [0, 1].contains i) 2 3 m_overfull
theorem sc_overfull : FnScope N_overfull ["text", "most"] (defScope (top 11)) := ⟨rfl, rfl, rfl, by decide +kernel, rfl, by decide +kernel, by decide +kernel⟩
theorem o_overfull (F : Fx w K mg) (B : Bx K mg base) : ∃ fd, FunD K "overfull" "overfull" (defArgs (top 11)) (defBody (top 11)) (defScope (top 11)) (d_overfull.dvs K) (d_overfull.kws K) (He.ga K "overfull") fd ∧ FO P w K mg base (tb K) 1 (He.ga K "overfull") fd ["text", "most"] Z_overfull 2 := by
  obtain ⟨fd, hf⟩ := fd_overfull F
  refine ⟨fd, hf, fn_F hf sc_overfull (fun i => [0, 1].contains i) rfl rfl _ (fun _ _ => rfl) fun cdv A outer s H E hc hci hr hu => ?_⟩
  have cdE := code_of hf hc hci
  have tk : Takes (cxOf (L2.CX P w) P w K mg base N_overfull "overfull" (defScope (top 11)) (He.ga K "overfull") cdv A outer s H E) (fun cls d _ H => E cls d H) := takes_of rfl rfl rfl rfl
  have nd : N_overfull.Nodup := sc_overfull.nd
  have h52 := un52 hr
  have h9 : ∀ d v H, ¬ (tb K).ex 9 d v H := no9
  exact (sss_cons (ss_set (i := 2) rfl nd rfl (by first | exact Or.inl rfl | exact Or.inr rfl) se_int)
  (sss_cons (ss_drop [2, 3, 4] (ss_for (passes_of rfl) rfl (si_enumS rfl (n_enumerate F) (se_var (pv 0))) (sg_tup rfl (sgs_cons (sg_name (i := 3) rfl nd rfl (by first | exact Or.inl rfl | exact Or.inr rfl)) (sgs_cons (sg_name (i := 4) rfl nd rfl (by first | exact Or.inl rfl | exact Or.inr rfl)) sgs_nil))) (sss_drop [3, 4] (sss_one (ss_if (sb_cmp (op_inV hr.units) v_in (se_var (pv 4)) (se_gstr rfl (v_BEGINS F)) (by with_unfolding_all rfl)) (sss_cons (ss_if (sb_cmp (op_eqP hr.units) v_eq (se_var (pv 2)) (se_var (pv 1)) (nomark _)) (sss_one (ss_ret (se_var (pv 3)))) sss_nil)
  (sss_one (ss_aug (i := 2) rfl nd rfl (by first | exact Or.inl rfl | exact Or.inr rfl) se_int ip_add ip_addV))) (sss_one (ss_if (sb_cmp (op_eqP hr.units) v_eq (se_var (pv 4)) (se_gstr rfl (v_END F)) (nomark _)) (sss_one (ss_set (i := 2) rfl nd rfl (by first | exact Or.inl rfl | exact Or.inr rfl) (se_bi (call_max2 rfl) b_max2 rfl (n_max F) boot_max (sa_cons se_int (sa_cons (se_op op_sub v_sub (se_var (pv 2)) se_int) sa_nil))))) sss_nil)))))))
  (sss_one (ss_ret se_non))))
theorem G_overfull (F : Fx w K mg) (B : Bx K mg base) : FnG P w K mg base (tb K) "overfull" 1 2 Z_overfull [] := by
  obtain ⟨fd, hf, h⟩ := o_overfull (P := P) (base := base) F B
  exact ⟨_, fd, _, [], [], h, g_overfull F, hf.kp, FunD.bindsN hf fun _ _ _ _ _ _ us hl => match us, hl with | [_, _], _ => rfl, .nil, fun _ => rfl⟩
def N_first_fault : List Str := ["text", "found", "index"]
def m_first_fault : MS := (sSeq (sSet 1 (mLc [2] (.nm 2) (mIt itT (mTup [(mCall Z_first_unknown [] [] [(mVar 0)]), (mCall Z_overfull [] [] [(mVar 0), (mC (.int 20))])])) (mTB (mOp2 isntD (mVar 2) (mC .non))) (mVar 2)))
  (sRet (mIf (mTB (mOp2 neD (mVar 1) (mLst []))) (mBi minLD [(mVar 1)]) (mC .non))))
def Z_first_fault : Fn := runF (fun i => [0].contains i) 1 2 m_first_fault
theorem sc_first_fault : FnScope N_first_fault ["text"] (defScope (top 13)) := ⟨rfl, rfl, rfl, by decide +kernel, rfl, by decide +kernel, by decide +kernel⟩
theorem o_first_fault (F : Fx w K mg) (B : Bx K mg base) : ∃ fd, FunD K "first_fault" "first_fault" (defArgs (top 13)) (defBody (top 13)) (defScope (top 13)) (d_first_fault.dvs K) (d_first_fault.kws K) (He.ga K "first_fault") fd ∧ FO P w K mg base (tb K) 2 (He.ga K "first_fault") fd ["text"] Z_first_fault 1 := by
  obtain ⟨fd, hf⟩ := fd_first_fault F
  refine ⟨fd, hf, fn_F hf sc_first_fault (fun i => [0].contains i) rfl rfl _ (fun _ _ => rfl) fun cdv A outer s H E hc hci hr hu => ?_⟩
  have cdE := code_of hf hc hci
  have tk : Takes (cxOf (L2.CX P w) P w K mg base N_first_fault "first_fault" (defScope (top 13)) (He.ga K "first_fault") cdv A outer s H E) (fun cls d _ H => E cls d H) := takes_of rfl rfl rfl rfl
  have nd : N_first_fault.Nodup := sc_first_fault.nd
  have h52 := un52 hr
  have h9 : ∀ d v H, ¬ (tb K).ex 9 d v H := no9
  exact (sss_cons (ss_setLc (i := 1) (own := [("index", 2)]) rfl rfl nd rfl rfl (sw_true rfl rfl rfl (by decide +kernel)) (si_tup (se_tup (sd_cons (se_fn (G_first_unknown F B) hr hu tk [] (sa_cons (se_var (pv 0)) sa_nil)) (sd_cons (se_fn (G_overfull F B) hr hu tk [] (sa_cons (se_var (pv 0)) (sa_cons (se_gint rfl (v_MOST_OPEN F)) sa_nil))) sd_nil)))) (blkOk_by (own := [("index", 2)]) (N := N_first_fault) (sc := defScope (top 13)) (by decide +kernel)) (fun _ _ _ _ _ => (sg_name (i := 2) rfl nd rfl (by first | exact Or.inl rfl | exact Or.inr rfl))) (fun _ _ _ _ _ => (sts_one (sb_cmp op_notN v_notN (se_var (pv 2)) se_non (nomark _)))) (fun _ _ _ _ _ => (se_var (pv 2))))
  (sss_one (ss_ret (se_if (sb_cmp (op_neP hr.units) v_ne (se_var (pv 1)) (se_lst sd_nil) (nomark _)) (se_bi (cr_min rfl) b_minL rfl (n_min F) boot_min (sa_cons (se_var (pv 1)) sa_nil)) se_non))))
theorem G_first_fault (F : Fx w K mg) (B : Bx K mg base) : FnG P w K mg base (tb K) "first_fault" 2 1 Z_first_fault [] := by
  obtain ⟨fd, hf, h⟩ := o_first_fault (P := P) (base := base) F B
  exact ⟨_, fd, _, [], [], h, g_first_fault F, hf.kp, FunD.bindsN hf fun _ _ _ _ _ _ us hl => match us, hl with | [_], _ => rfl, .nil, fun _ => rfl⟩
def N_need_text : List Str := ["text", "known", "strange", "fault", "index", "sign"]
def m_need_text : MS := (sSeq (sIf (mOr (mNot (mTB (mOp1 (isiD .str) (mVar 0)))) (mTB (mOp2 gtD (mBi lenD [(mVar 0)]) (mC (.int 400))))) (sRaise 0 (mC .non)) sPass)
  (sSeq (sSet 2 (mLc [4, 5] (.tp [(.nm 4), (.nm 5)]) (mIt itES (mVar 0)) (mTB (mOp2 ninD (mVar 5) (mVar 1))) (mVar 4)))
  (sSeq (sSet 3 (mIf (mTB (mOp2 neD (mVar 2) (mLst []))) (mCall Z_first_fault [] [] [(mSl slS (mVar 0) none (some (mOp2 ixD (mVar 2) (mC (.int 0)))))]) (mCall Z_first_fault [] [] [(mVar 0)])))
  (sIf (mOr (mTB (mOp2 isntD (mVar 3) (mC .non))) (mTB (mOp2 neD (mVar 2) (mLst [])))) (sRaise 0 (mIf (mTB (mOp2 isD (mVar 3) (mC .non))) (mOp2 ixD (mVar 2) (mC (.int 0))) (mVar 3))) sPass))))
def Z_need_text : Fn := runF (fun i => [0, 1].contains i) 2 4 m_need_text
theorem sc_need_text : FnScope N_need_text ["text", "known"] (defScope (top 14)) := ⟨rfl, rfl, rfl, by decide +kernel, rfl, by decide +kernel, by decide +kernel⟩
theorem o_need_text (F : Fx w K mg) (B : Bx K mg base) : ∃ fd, FunD K "need_text" "need_text" (defArgs (top 14)) (defBody (top 14)) (defScope (top 14)) (d_need_text.dvs K) (d_need_text.kws K) (He.ga K "need_text") fd ∧ FO P w K mg base (tb K) 3 (He.ga K "need_text") fd ["text", "known"] Z_need_text 2 := by
  obtain ⟨fd, hf⟩ := fd_need_text F
  refine ⟨fd, hf, fn_F hf sc_need_text (fun i => [0, 1].contains i) rfl rfl _ (fun _ _ => rfl) fun cdv A outer s H E hc hci hr hu => ?_⟩
  have cdE := code_of hf hc hci
  have tk : Takes (cxOf (L2.CX P w) P w K mg base N_need_text "need_text" (defScope (top 14)) (He.ga K "need_text") cdv A outer s H E) (fun cls d _ H => E cls d H) := takes_of rfl rfl rfl rfl
  have nd : N_need_text.Nodup := sc_need_text.nd
  have h52 := un52 hr
  have h9 : ∀ d v H, ¬ (tb K).ex 9 d v H := no9
  exact (sss_cons (ss_if (sw_pt (sw_or (sb_not (sb_val (se_isi (ty := .str) rfl (n_isinstance F) boot_isinstance rfl (n_str F) bt_str (se_var (pv 0))))) (sw_or1 (sb_cmp op_gtV v_gt (se_bi call_lenV b_len rfl (n_len F) boot_len (sa_cons (se_var (pv 0)) sa_nil)) (se_gint rfl (v_MOST_CHARACTERS F)) (nomark _))))) (sss_one (ss_raise (k := 0) rfl tk (xc_BadText F) hr rfl se_non)) sss_nil)
  (sss_cons (ss_setLc (i := 2) (own := [("index", 4), ("sign", 5)]) rfl rfl nd rfl rfl (sw_true rfl rfl rfl (by decide +kernel)) (si_enumS rfl (n_enumerate F) (se_var (pv 0))) (blkOk_by (own := [("index", 4), ("sign", 5)]) (N := N_need_text) (sc := defScope (top 14)) (by decide +kernel)) (fun _ _ _ _ _ => (sg_tup rfl (sgs_cons (sg_name (i := 4) rfl nd rfl (by first | exact Or.inl rfl | exact Or.inr rfl)) (sgs_cons (sg_name (i := 5) rfl nd rfl (by first | exact Or.inl rfl | exact Or.inr rfl)) sgs_nil)))) (fun _ _ _ _ _ => (sts_one (sb_cmp (op_notInV hr.units) v_notIn (se_var (pv 5)) (se_var (pv 1)) (by with_unfolding_all rfl)))) (fun _ _ _ _ _ => (se_var (pv 4))))
  (sss_cons (ss_set (i := 3) rfl nd rfl (by first | exact Or.inl rfl | exact Or.inr rfl) (se_if (sb_cmp (op_neP hr.units) v_ne (se_var (pv 2)) (se_lst sd_nil) (nomark _)) (se_fn (G_first_fault F B) hr hu tk [] (sa_cons (se_sl sl_str sl_S (se_var (pv 0)) spt_none (spt_some (se_ix ix_seq v_ix (se_var (pv 2)) se_int (fun _ _ => rfl)))) sa_nil)) (se_fn (G_first_fault F B) hr hu tk [] (sa_cons (se_var (pv 0)) sa_nil))))
  (sss_one (ss_if (sw_pt (sw_or (sb_cmp op_notN v_notN (se_var (pv 3)) se_non (nomark _)) (sw_or1 (sb_cmp (op_neP hr.units) v_ne (se_var (pv 2)) (se_lst sd_nil) (nomark _))))) (sss_one (ss_raise (k := 0) rfl tk (xc_BadText F) hr rfl (se_if (sb_cmp op_isN v_isN (se_var (pv 3)) se_non (nomark _)) (se_ix ix_seq v_ix (se_var (pv 2)) se_int (fun _ _ => rfl)) (se_var (pv 3))))) sss_nil)))))
theorem G_need_text (F : Fx w K mg) (B : Bx K mg base) : FnG P w K mg base (tb K) "need_text" 3 2 Z_need_text [] := by
  obtain ⟨fd, hf, h⟩ := o_need_text (P := P) (base := base) F B
  obtain ⟨ds, hv, hb⟩ := FunD.binds1 (ps := ["text", "known"]) hf 2 1 (fun z => by cases z) rfl (fun _ _ _ _ _ _ _ us its h1 h2 => match us, its, h1, h2 with | [_, _], [_], _, _ => ⟨_, rfl, rfl⟩)
  exact ⟨_, fd, _, _, ds, h, g_need_text F, hf.kp, hb, hv, fun H => rfl⟩
def N_need_direction : List Str := ["direction", "words"]
def m_need_direction : MS := (sIf (mOr (mNot (mTB (mOp1 (isiD .str) (mVar 0)))) (mTB (mOp2 ninD (mVar 0) (mVar 1)))) (sRaise 1 (mVar 0)) sPass)
def Z_need_direction : Fn := runF (fun i => [0, 1].contains i) 2 0 m_need_direction
theorem sc_need_direction : FnScope N_need_direction ["direction", "words"] (defScope (top 19)) := ⟨rfl, rfl, rfl, by decide +kernel, rfl, by decide +kernel, by decide +kernel⟩
theorem o_need_direction (F : Fx w K mg) (B : Bx K mg base) : ∃ fd, FunD K "need_direction" "need_direction" (defArgs (top 19)) (defBody (top 19)) (defScope (top 19)) (d_need_direction.dvs K) (d_need_direction.kws K) (He.ga K "need_direction") fd ∧ FO P w K mg base (tb K) 3 (He.ga K "need_direction") fd ["direction", "words"] Z_need_direction 2 := by
  obtain ⟨fd, hf⟩ := fd_need_direction F
  refine ⟨fd, hf, fn_F hf sc_need_direction (fun i => [0, 1].contains i) rfl rfl _ (fun _ _ => rfl) fun cdv A outer s H E hc hci hr hu => ?_⟩
  have cdE := code_of hf hc hci
  have tk : Takes (cxOf (L2.CX P w) P w K mg base N_need_direction "need_direction" (defScope (top 19)) (He.ga K "need_direction") cdv A outer s H E) (fun cls d _ H => E cls d H) := takes_of rfl rfl rfl rfl
  have nd : N_need_direction.Nodup := sc_need_direction.nd
  have h52 := un52 hr
  have h9 : ∀ d v H, ¬ (tb K).ex 9 d v H := no9
  exact (sss_one (ss_if (sw_pt (sw_or (sb_not (sb_val (se_isi (ty := .str) rfl (n_isinstance F) boot_isinstance rfl (n_str F) bt_str (se_var (pv 0))))) (sw_or1 (sb_cmp (op_notInV hr.units) v_notIn (se_var (pv 0)) (se_var (pv 1)) (by with_unfolding_all rfl))))) (sss_one (ss_raise (k := 1) rfl tk (xc_BadWord F) hr rfl (se_var (pv 0)))) sss_nil))
theorem G_need_direction (F : Fx w K mg) (B : Bx K mg base) : FnG P w K mg base (tb K) "need_direction" 3 2 Z_need_direction [] := by
  obtain ⟨fd, hf, h⟩ := o_need_direction (P := P) (base := base) F B
  obtain ⟨ds, hv, hb⟩ := FunD.binds1 (ps := ["direction", "words"]) hf 2 1 (fun z => by cases z) rfl (fun _ _ _ _ _ _ _ us its h1 h2 => match us, its, h1, h2 with | [_, _], [_], _, _ => ⟨_, rfl, rfl⟩)
  exact ⟨_, fd, _, _, ds, h, g_need_direction F, hf.kp, hb, hv, fun H => rfl⟩
def N_strong_before : List Str := ["classes", "found", "last", "word"]
abbrev b_strong_before_0 : MS := (sDrop (sSeq (sExp (mMut1 1 appF (mVar 2)))
  (sIf (mTB (mOp2 inD (mVar 3) (mC (.str c_STRONG)))) (sSet 2 (mVar 3)) sPass)) [3])
def m_strong_before : MS := (sSeq (sPar [1, 2] [(mLst []), (mC .non)])
  (sSeq (sDrop (sFor (.nm 3) (mIt itS (mVar 0)) b_strong_before_0) [2, 3])
  (sRet (mVar 1))))
def Z_strong_before : Fn := runF (fun i => [0].contains i) 1 3 m_strong_before
theorem sc_strong_before : FnScope N_strong_before ["classes"] (defScope (top 24)) := ⟨rfl, rfl, rfl, by decide +kernel, rfl, by decide +kernel, by decide +kernel⟩
theorem o_strong_before (F : Fx w K mg) (B : Bx K mg base) : ∃ fd, FunD K "strong_before" "strong_before" (defArgs (top 24)) (defBody (top 24)) (defScope (top 24)) (d_strong_before.dvs K) (d_strong_before.kws K) (He.ga K "strong_before") fd ∧ FO P w K mg base (tb K) 1 (He.ga K "strong_before") fd ["classes"] Z_strong_before 1 := by
  obtain ⟨fd, hf⟩ := fd_strong_before F
  refine ⟨fd, hf, fn_F hf sc_strong_before (fun i => [0].contains i) rfl rfl _ (fun _ _ => rfl) fun cdv A outer s H E hc hci hr hu => ?_⟩
  have cdE := code_of hf hc hci
  have tk : Takes (cxOf (L2.CX P w) P w K mg base N_strong_before "strong_before" (defScope (top 24)) (He.ga K "strong_before") cdv A outer s H E) (fun cls d _ H => E cls d H) := takes_of rfl rfl rfl rfl
  have nd : N_strong_before.Nodup := sc_strong_before.nd
  have h52 := un52 hr
  have h9 : ∀ d v H, ¬ (tb K).ex 9 d v H := no9
  exact (sss_cons (ss_par (i := 1) (j := 2) rfl rfl rfl nd rfl rfl (by decide) rfl rfl (so_cons (se_lst sd_nil) (so_cons se_non so_nil)) (by rfl))
  (sss_cons (ss_drop [2, 3] (ss_for (passes_of rfl) rfl (si_str (se_var (pv 0))) (sg_name (i := 3) rfl nd rfl (by first | exact Or.inl rfl | exact Or.inr rfl)) (sss_drop [3] (sss_cons (ss_exp (se_mut1 (i := 1) PySem.F.slot_list_append PySem.F.type_list_append mt_append m_app (pv 1) (se_var (pv 2))))
  (sss_one (ss_if (sb_cmp (op_inV hr.units) v_in (se_var (pv 3)) (se_gstr rfl (v_STRONG F)) (by with_unfolding_all rfl)) (sss_one (ss_set (i := 2) rfl nd rfl (by first | exact Or.inl rfl | exact Or.inr rfl) (se_var (pv 3)))) sss_nil))))))
  (sss_one (ss_ret (se_var (pv 1))))))
theorem G_strong_before (F : Fx w K mg) (B : Bx K mg base) : FnG P w K mg base (tb K) "strong_before" 1 1 Z_strong_before [] := by
  obtain ⟨fd, hf, h⟩ := o_strong_before (P := P) (base := base) F B
  exact ⟨_, fd, _, [], [], h, g_strong_before F, hf.kp, FunD.bindsN hf fun _ _ _ _ _ _ us hl => match us, hl with | [_], _ => rfl, .nil, fun _ => rfl⟩
def N_intervals : List Str := ["things", "is_one", "found", "start", "place", "thing"]
abbrev b_intervals_0 : MS := (sDrop (sIf (mTB (mCallV 1 Fs [(mVar 5)])) (sSet 3 (mIf (mTB (mOp2 isD (mVar 3) (mC .non))) (mVar 4) (mVar 3))) (sIf (mTB (mOp2 isntD (mVar 3) (mC .non))) (sSeq (sExp (mMut1 2 appF (mTup [(mVar 3), (mVar 4)])))
  (sSet 3 (mC .non))) sPass)) [4, 5])
def m_intervals : MS := (sSeq (sPar [2, 3] [(mLst []), (mC .non)])
  (sSeq (sDrop (sFor (.tp [(.nm 4), (.nm 5)]) (mIt itEL (mVar 0)) b_intervals_0) [4, 5])
  (sRet (mIf (mTB (mOp2 isD (mVar 3) (mC .non))) (mVar 2) (mLstD (mStar (mVar 2) (mLks [(mTup [(mVar 3), (mBi lenD [(mVar 0)])])])))))))
def Z_intervals : Fn := runF (fun i => [0, 1].contains i) 2 4 m_intervals
theorem sc_intervals : FnScope N_intervals ["things", "is_one"] (defScope (top 26)) := ⟨rfl, rfl, rfl, by decide +kernel, rfl, by decide +kernel, by decide +kernel⟩
theorem o_intervals (F : Fx w K mg) (B : Bx K mg base) : ∃ fd, FunD K "intervals" "intervals" (defArgs (top 26)) (defBody (top 26)) (defScope (top 26)) (d_intervals.dvs K) (d_intervals.kws K) (He.ga K "intervals") fd ∧ FO P w K mg base (tb K) 3 (He.ga K "intervals") fd ["things", "is_one"] Z_intervals 2 := by
  obtain ⟨fd, hf⟩ := fd_intervals F
  refine ⟨fd, hf, fn_F hf sc_intervals (fun i => [0, 1].contains i) rfl rfl _ (fun _ _ => rfl) fun cdv A outer s H E hc hci hr hu => ?_⟩
  have cdE := code_of hf hc hci
  have tk : Takes (cxOf (L2.CX P w) P w K mg base N_intervals "intervals" (defScope (top 26)) (He.ga K "intervals") cdv A outer s H E) (fun cls d _ H => E cls d H) := takes_of rfl rfl rfl rfl
  have nd : N_intervals.Nodup := sc_intervals.nd
  have h52 := un52 hr
  have h9 : ∀ d v H, ¬ (tb K).ex 9 d v H := no9
  exact (sss_cons (ss_par (i := 2) (j := 3) rfl rfl rfl nd rfl rfl (by decide) rfl rfl (so_cons (se_lst sd_nil) (so_cons se_non so_nil)) (by rfl))
  (sss_cons (ss_drop [4, 5] (ss_for (passes_of rfl) rfl (si_enumL rfl (n_enumerate F) (se_var (pv 0))) (sg_tup rfl (sgs_cons (sg_name (i := 4) rfl nd rfl (by first | exact Or.inl rfl | exact Or.inr rfl)) (sgs_cons (sg_name (i := 5) rfl nd rfl (by first | exact Or.inl rfl | exact Or.inr rfl)) sgs_nil))) (sss_drop [4, 5] (sss_one (ss_if (sb_val (se_callL (mk := mkL) (Fs := Fs) (ar := 1) (i := 1) (fun _ _ _ h => h) (lok F B) hr hu tk rfl (.inl rfl) (sa_cons (se_var (pv 5)) sa_nil))) (sss_one (ss_set (i := 3) rfl nd rfl (by first | exact Or.inl rfl | exact Or.inr rfl) (se_if (sb_cmp op_isN v_isN (se_var (pv 3)) se_non (nomark _)) (se_var (pv 4)) (se_var (pv 3))))) (sss_one (ss_if (sb_cmp op_notN v_notN (se_var (pv 3)) se_non (nomark _)) (sss_cons (ss_exp (se_mut1 (i := 2) PySem.F.slot_list_append PySem.F.type_list_append mt_append m_app (pv 2) (se_tup (sd_cons (se_var (pv 3)) (sd_cons (se_var (pv 4)) sd_nil)))))
  (sss_one (ss_set (i := 3) rfl nd rfl (by first | exact Or.inl rfl | exact Or.inr rfl) se_non))) sss_nil)))))))
  (sss_one (ss_ret (se_if (sb_cmp op_isN v_isN (se_var (pv 3)) se_non (nomark _)) (se_var (pv 2)) (se_lstD (sd_star (se_var (pv 2)) (sd_cons (se_tup (sd_cons (se_var (pv 3)) (sd_cons (se_bi call_lenV b_len rfl (n_len F) boot_len (sa_cons (se_var (pv 0)) sa_nil)) sd_nil))) sd_nil))))))))
theorem G_intervals (F : Fx w K mg) (B : Bx K mg base) : FnG P w K mg base (tb K) "intervals" 3 2 Z_intervals [] := by
  obtain ⟨fd, hf, h⟩ := o_intervals (P := P) (base := base) F B
  exact ⟨_, fd, _, [], [], h, g_intervals F, hf.kp, FunD.bindsN hf fun _ _ _ _ _ _ us hl => match us, hl with | [_, _], _ => rfl, .nil, fun _ => rfl⟩
def N_signs_joined : List Str := ["kinds", "found", "start", "stop", "kind"]
abbrev b_signs_joined_0 : MS := (sDrop (sIf (mTB (mOp2 inD (mC (.str c_PLAIN)) (mOl2 catL (mSlL slL (mVar 0) (some (mBi max2D [(mC (.int 0)), (mOp2 subD (mVar 2) (mC (.int 1)))])) (some (mVar 2))) (mSlL slL (mVar 0) (some (mVar 3)) (some (mOp2 addD (mVar 3) (mC (.int 1)))))))) (sSlSto 1 (some (mVar 2)) (some (mVar 3)) (mOl2 repL (mLst [(mC (.str c_PLAIN))]) (mOp2 subD (mVar 3) (mVar 2)))) sPass) [2, 3])
def m_signs_joined : MS := (sSeq (sSet 1 (mBl listL [(mVar 0)]))
  (sSeq (sDrop (sFor (.tp [(.nm 2), (.nm 3)]) (mIt itL (mCall Z_intervals [] [] [(mVar 0), (mC (.ex 1 (.int (0 : Nat))))])) b_signs_joined_0) [2, 3])
  (sRet (mLc [4] (.nm 4) (mIt itL (mVar 1)) mYes (mIf (mTB (mOp2 inD (mVar 4) (mTup [(mC (.str [83])), (mC (.str [84]))]))) (mC (.str [78])) (mVar 4))))))
def Z_signs_joined : Fn := runF (fun i => [0].contains i) 1 4 m_signs_joined
theorem sc_signs_joined : FnScope N_signs_joined ["kinds"] (defScope (top 27)) := ⟨rfl, rfl, rfl, by decide +kernel, rfl, by decide +kernel, by decide +kernel⟩
theorem o_signs_joined (F : Fx w K mg) (B : Bx K mg base) : ∃ fd, FunD K "signs_joined" "signs_joined" (defArgs (top 27)) (defBody (top 27)) (defScope (top 27)) (d_signs_joined.dvs K) (d_signs_joined.kws K) (He.ga K "signs_joined") fd ∧ FO P w K mg base (tb K) 4 (He.ga K "signs_joined") fd ["kinds"] Z_signs_joined 1 := by
  obtain ⟨fd, hf⟩ := fd_signs_joined F
  refine ⟨fd, hf, fn_F hf sc_signs_joined (fun i => [0].contains i) rfl rfl _ (fun _ _ => rfl) fun cdv A outer s H E hc hci hr hu => ?_⟩
  have cdE := code_of hf hc hci
  have tk : Takes (cxOf (L2.CX P w) P w K mg base N_signs_joined "signs_joined" (defScope (top 27)) (He.ga K "signs_joined") cdv A outer s H E) (fun cls d _ H => E cls d H) := takes_of rfl rfl rfl rfl
  have nd : N_signs_joined.Nodup := sc_signs_joined.nd
  have h52 := un52 hr
  have h9 : ∀ d v H, ¬ (tb K).ex 9 d v H := no9
  exact (sss_cons (ss_set (i := 1) rfl nd rfl (by first | exact Or.inl rfl | exact Or.inr rfl) (se_tl call_list_of b_list rfl (n_list F) boot_list (sa_cons (se_var (pv 0)) sa_nil)))
  (sss_cons (ss_drop [2, 3] (ss_for (passes_of rfl) rfl (si_list (se_fn (G_intervals F B) hr hu tk [] (sa_cons (se_var (pv 0)) (sa_cons (se_lam (mk := mkL) (n := 0) (q := ((He.cT K ("signs_joined", none)).2, some ((("signs_joined" : Str) ++ ".<locals>.") ++ "<lambda>"))) (fun _ _ _ h => h) (fun _ => rfl) (B _ (by decide)) (tbs_mem K (p := ("signs_joined", _)) (by decide)) rfl (fun z hz e => tbs_un F z hz _ (tbs_mem K (p := ("signs_joined", _)) (by decide)) e) cdE rfl rfl (by decide +kernel)) sa_nil)))) (sg_tup rfl (sgs_cons (sg_name (i := 2) rfl nd rfl (by first | exact Or.inl rfl | exact Or.inr rfl)) (sgs_cons (sg_name (i := 3) rfl nd rfl (by first | exact Or.inl rfl | exact Or.inr rfl)) sgs_nil))) (sss_drop [2, 3] (sss_one (ss_if (sb_cmp (op_inV hr.units) v_in (se_gstr rfl (v_PLAIN F)) (se_opL op_catR v_cat (se_slL sl_list sl_L (se_var (pv 0)) (spt_some (se_bi (call_max2 rfl) b_max2 rfl (n_max F) boot_max (sa_cons se_int (sa_cons (se_op op_sub v_sub (se_var (pv 2)) se_int) sa_nil)))) (spt_some (se_var (pv 2)))) (se_slL sl_list sl_L (se_var (pv 0)) (spt_some (se_var (pv 3))) (spt_some (se_op op_addV v_add (se_var (pv 3)) se_int)))) (by with_unfolding_all rfl)) (sss_one (ss_slsto (i := 1) (pv 1) (spt_some (se_var (pv 2))) (spt_some (se_var (pv 3))) (se_opL op_repR v_rep (se_lst (sd_cons (se_gstr rfl (v_PLAIN F)) sd_nil)) (se_op op_sub v_sub (se_var (pv 3)) (se_var (pv 2)))))) sss_nil)))))
  (sss_one (ss_ret (se_lc (own := [("kind", 4)]) rfl nd (si_list (se_var (pv 1))) (blkOk_by (own := [("kind", 4)]) (N := N_signs_joined) (sc := defScope (top 27)) (by decide +kernel)) (fun _ _ _ _ _ => (sg_name (i := 4) rfl nd rfl (by first | exact Or.inl rfl | exact Or.inr rfl))) (fun _ _ _ _ _ => sts_nil) (fun _ _ _ _ _ => (se_if (sb_cmp (op_inV hr.units) v_in (se_var (pv 4)) (se_tup (sd_cons (se_str (l := [83])) (sd_cons (se_str (l := [84])) sd_nil))) (by with_unfolding_all rfl)) (se_str (l := [78])) (se_var (pv 4)))))))))
theorem G_signs_joined (F : Fx w K mg) (B : Bx K mg base) : FnG P w K mg base (tb K) "signs_joined" 4 1 Z_signs_joined [] := by
  obtain ⟨fd, hf, h⟩ := o_signs_joined (P := P) (base := base) F B
  exact ⟨_, fd, _, [], [], h, g_signs_joined F, hf.kp, FunD.bindsN hf fun _ _ _ _ _ _ us hl => match us, hl with | [_], _ => rfl, .nil, fun _ => rfl⟩
def N_digits_told : List Str := ["classes", "before", "kinds", "place", "word"]
abbrev b_digits_told_0 : MS := (sDrop (sIf (mTB (mOp2 eqD (mVar 4) (mC (.str [68])))) (sSto 2 (mVar 3) (mIf (mTB (mOp2 eqD (mOp2 ixD (mVar 1) (mVar 3)) (mC (.str [65])))) (mC (.str c_EASTERN)) (mC (.str c_PLAIN)))) sPass) [3, 4])
abbrev b_digits_told_1 : MS := (sDrop (sIf (mAnd (mTB (mOp2 eqD (mOp2 ixD (mVar 0) (mVar 3)) (mC (.str [83])))) (mTB (mChain eqD eqD (mOp2 ixD (mVar 0) (mOp2 subD (mVar 3) (mC (.int 1)))) (mOp2 ixD (mVar 0) (mOp2 addD (mVar 3) (mC (.int 1)))) (mC (.str [68]))))) (sSto 2 (mVar 3) (mOp2 ixD (mVar 2) (mOp2 subD (mVar 3) (mC (.int 1))))) sPass) [3])
def m_digits_told : MS := (sSeq (sSet 2 (mBl listSD [(mVar 0)]))
  (sSeq (sDrop (sFor (.tp [(.nm 3), (.nm 4)]) (mIt itES (mVar 0)) b_digits_told_0) [3, 4])
  (sSeq (sDrop (sFor (.nm 3) (mItR (mC (.int 1)) (mOp2 subD (mBi lenD [(mVar 0)]) (mC (.int 1)))) b_digits_told_1) [3])
  (sRet (mVar 2)))))
def Z_digits_told : Fn := runF (fun i => [0, 1].contains i) 2 3 m_digits_told
theorem sc_digits_told : FnScope N_digits_told ["classes", "before"] (defScope (top 25)) := ⟨rfl, rfl, rfl, by decide +kernel, rfl, by decide +kernel, by decide +kernel⟩
theorem o_digits_told (F : Fx w K mg) (B : Bx K mg base) : ∃ fd, FunD K "digits_told" "digits_told" (defArgs (top 25)) (defBody (top 25)) (defScope (top 25)) (d_digits_told.dvs K) (d_digits_told.kws K) (He.ga K "digits_told") fd ∧ FO P w K mg base (tb K) 1 (He.ga K "digits_told") fd ["classes", "before"] Z_digits_told 2 := by
  obtain ⟨fd, hf⟩ := fd_digits_told F
  refine ⟨fd, hf, fn_F hf sc_digits_told (fun i => [0, 1].contains i) rfl rfl _ (fun _ _ => rfl) fun cdv A outer s H E hc hci hr hu => ?_⟩
  have cdE := code_of hf hc hci
  have tk : Takes (cxOf (L2.CX P w) P w K mg base N_digits_told "digits_told" (defScope (top 25)) (He.ga K "digits_told") cdv A outer s H E) (fun cls d _ H => E cls d H) := takes_of rfl rfl rfl rfl
  have nd : N_digits_told.Nodup := sc_digits_told.nd
  have h52 := un52 hr
  have h9 : ∀ d v H, ¬ (tb K).ex 9 d v H := no9
  exact (sss_cons (ss_set (i := 2) rfl nd rfl (by first | exact Or.inl rfl | exact Or.inr rfl) (se_tl (call_listS rfl) b_listS rfl (n_list F) boot_list (sa_cons (se_var (pv 0)) sa_nil)))
  (sss_cons (ss_drop [3, 4] (ss_for (passes_of rfl) rfl (si_enumS rfl (n_enumerate F) (se_var (pv 0))) (sg_tup rfl (sgs_cons (sg_name (i := 3) rfl nd rfl (by first | exact Or.inl rfl | exact Or.inr rfl)) (sgs_cons (sg_name (i := 4) rfl nd rfl (by first | exact Or.inl rfl | exact Or.inr rfl)) sgs_nil))) (sss_drop [3, 4] (sss_one (ss_if (sb_cmp (op_eqP hr.units) v_eq (se_var (pv 4)) (se_str (l := [68])) (nomark _)) (sss_one (ss_sto (i := 2) (pv 2) (se_var (pv 3)) (se_if (sb_cmp (op_eqP hr.units) v_eq (se_ix ix_seq v_ix (se_var (pv 1)) (se_var (pv 3)) (fun _ _ => rfl)) (se_str (l := [65])) (nomark _)) (se_gstr rfl (v_EASTERN F)) (se_gstr rfl (v_PLAIN F))) (fun _ => rfl))) sss_nil)))))
  (sss_cons (ss_drop [3] (ss_for (passes_of rfl) rfl (si_rng2 rfl (n_range F) se_int (se_op op_sub v_sub (se_bi call_lenV b_len rfl (n_len F) boot_len (sa_cons (se_var (pv 0)) sa_nil)) se_int)) (sg_name (i := 3) rfl nd rfl (by first | exact Or.inl rfl | exact Or.inr rfl)) (sss_drop [3] (sss_one (ss_if (sw_pt (sw_and (sb_cmp (op_eqP hr.units) v_eq (se_ix ix_seq v_ix (se_var (pv 0)) (se_var (pv 3)) (fun _ _ => rfl)) (se_str (l := [83])) (nomark _)) (sw_and1 (sb_chain (op_eqP hr.units) v_eq (op_eqP hr.units) v_eq (se_ix ix_seq v_ix (se_var (pv 0)) (se_op op_sub v_sub (se_var (pv 3)) se_int) (fun _ _ => rfl)) (se_ix ix_seq v_ix (se_var (pv 0)) (se_op op_addV v_add (se_var (pv 3)) se_int) (fun _ _ => rfl)) (se_str (l := [68])))))) (sss_one (ss_sto (i := 2) (pv 2) (se_var (pv 3)) (se_ix ix_seq v_ix (se_var (pv 2)) (se_op op_sub v_sub (se_var (pv 3)) se_int) (fun _ _ => rfl)) (fun _ => rfl))) sss_nil)))))
  (sss_one (ss_ret (se_var (pv 2)))))))
theorem G_digits_told (F : Fx w K mg) (B : Bx K mg base) : FnG P w K mg base (tb K) "digits_told" 1 2 Z_digits_told [] := by
  obtain ⟨fd, hf, h⟩ := o_digits_told (P := P) (base := base) F B
  exact ⟨_, fd, _, [], [], h, g_digits_told F, hf.kp, FunD.bindsN hf fun _ _ _ _ _ _ us hl => match us, hl with | [_, _], _ => rfl, .nil, fun _ => rfl⟩
def N_directions_told : List Str := ["kinds", "before", "right", "found", "kind", "last", "told", "start", "stop", "ahead", "behind"]
abbrev b_directions_told_0 : MS := (sDrop (sIf (mTB (mOp2 inD (mVar 4) (mC (.tup c_DIGITS)))) (sExp (mMut1 3 appF (mBi intD [(mIf (mTB (mOp2 isntD (mVar 5) (mC .non))) (mOp2 neD (mVar 5) (mC (.str [76]))) (mVar 2))]))) (sExp (mMut1 3 appF (mIf (mTB (mOp2 eqD (mVar 4) (mC (.str [78])))) (mC .non) (mBi intD [(mOp2 neD (mVar 4) (mC (.str [76])))]))))) [4, 5])
abbrev b_directions_told_1 : MS := (sDrop (sSeq (sSet 9 (mIf (mTB (mOp2 gtD (mVar 7) (mC (.int 0)))) (mOp2 ixD (mVar 3) (mOp2 subD (mVar 7) (mC (.int 1)))) (mBi intD [(mVar 2)])))
  (sSeq (sSet 10 (mIf (mTB (mOp2 ltD (mVar 8) (mBi lenD [(mVar 3)]))) (mOp2 ixD (mVar 3) (mVar 8)) (mBi intD [(mVar 2)])))
  (sSlSto 6 (some (mVar 7)) (some (mVar 8)) (mOl2 repL (mLst [(mIf (mTB (mOp2 eqD (mVar 9) (mVar 10))) (mVar 9) (mBi intD [(mVar 2)]))]) (mOp2 subD (mVar 8) (mVar 7)))))) [7, 8, 9, 10])
def m_directions_told : MS := (sSeq (sSet 3 (mLst []))
  (sSeq (sDrop (sFor (.tp [(.nm 4), (.nm 5)]) (mItS (mVar 0) (mVar 1)) b_directions_told_0) [4, 5])
  (sSeq (sSet 6 (mBl listL [(mVar 3)]))
  (sSeq (sDrop (sFor (.tp [(.nm 7), (.nm 8)]) (mIt itL (mCall Z_intervals [] [] [(mVar 3), (mC (.ex 1 (.int (1 : Nat))))])) b_directions_told_1) [7, 8, 9, 10])
  (sRet (mVar 6))))))
def Z_directions_told : Fn := runF (fun i => [0, 1, 2].contains i) 3 8 m_directions_told
theorem sc_directions_told : FnScope N_directions_told ["kinds", "before", "right"] (defScope (top 28)) := ⟨rfl, rfl, rfl, by decide +kernel, rfl, by decide +kernel, by decide +kernel⟩
theorem o_directions_told (F : Fx w K mg) (B : Bx K mg base) : ∃ fd, FunD K "directions_told" "directions_told" (defArgs (top 28)) (defBody (top 28)) (defScope (top 28)) (d_directions_told.dvs K) (d_directions_told.kws K) (He.ga K "directions_told") fd ∧ FO P w K mg base (tb K) 4 (He.ga K "directions_told") fd ["kinds", "before", "right"] Z_directions_told 3 := by
  obtain ⟨fd, hf⟩ := fd_directions_told F
  refine ⟨fd, hf, fn_F hf sc_directions_told (fun i => [0, 1, 2].contains i) rfl rfl _ (fun _ _ => rfl) fun cdv A outer s H E hc hci hr hu => ?_⟩
  have cdE := code_of hf hc hci
  have tk : Takes (cxOf (L2.CX P w) P w K mg base N_directions_told "directions_told" (defScope (top 28)) (He.ga K "directions_told") cdv A outer s H E) (fun cls d _ H => E cls d H) := takes_of rfl rfl rfl rfl
  have nd : N_directions_told.Nodup := sc_directions_told.nd
  have h52 := un52 hr
  have h9 : ∀ d v H, ¬ (tb K).ex 9 d v H := no9
  exact (sss_cons (ss_set (i := 3) rfl nd rfl (by first | exact Or.inl rfl | exact Or.inr rfl) (se_lst sd_nil))
  (sss_cons (ss_drop [4, 5] (ss_for (passes_of rfl) rfl (si_strict rfl (n_zip F) (se_var (pv 0)) (se_var (pv 1))) (sg_tup rfl (sgs_cons (sg_name (i := 4) rfl nd rfl (by first | exact Or.inl rfl | exact Or.inr rfl)) (sgs_cons (sg_name (i := 5) rfl nd rfl (by first | exact Or.inl rfl | exact Or.inr rfl)) sgs_nil))) (sss_drop [4, 5] (sss_one (ss_if (sb_cmp (op_inV hr.units) v_in (se_var (pv 4)) (se_gref rfl (g_DIGITS F) (t_DIGITS F rfl)) (by with_unfolding_all rfl)) (sss_one (ss_exp (se_mut1 (i := 3) PySem.F.slot_list_append PySem.F.type_list_append mt_append m_app (pv 3) (se_ti call_int1 b_int rfl (n_int F) boot_int (sa_cons (se_if (sb_cmp op_notN v_notN (se_var (pv 5)) se_non (nomark _)) (se_cmp (op_neP hr.units) v_ne (se_var (pv 5)) (se_str (l := [76])) (nomark _)) (se_var (pv 2))) sa_nil))))) (sss_one (ss_exp (se_mut1 (i := 3) PySem.F.slot_list_append PySem.F.type_list_append mt_append m_app (pv 3) (se_if (sb_cmp (op_eqP hr.units) v_eq (se_var (pv 4)) (se_str (l := [78])) (nomark _)) se_non (se_ti call_int1 b_int rfl (n_int F) boot_int (sa_cons (se_cmp (op_neP hr.units) v_ne (se_var (pv 4)) (se_str (l := [76])) (nomark _)) sa_nil)))))))))))
  (sss_cons (ss_set (i := 6) rfl nd rfl (by first | exact Or.inl rfl | exact Or.inr rfl) (se_tl call_list_of b_list rfl (n_list F) boot_list (sa_cons (se_var (pv 3)) sa_nil)))
  (sss_cons (ss_drop [7, 8, 9, 10] (ss_for (passes_of rfl) rfl (si_list (se_fn (G_intervals F B) hr hu tk [] (sa_cons (se_var (pv 3)) (sa_cons (se_lam (mk := mkL) (n := 1) (q := ((He.cT K ("directions_told", none)).2, some ((("directions_told" : Str) ++ ".<locals>.") ++ "<lambda>"))) (fun _ _ _ h => h) (fun _ => rfl) (B _ (by decide)) (tbs_mem K (p := ("directions_told", _)) (by decide)) rfl (fun z hz e => tbs_un F z hz _ (tbs_mem K (p := ("directions_told", _)) (by decide)) e) cdE rfl rfl (by decide +kernel)) sa_nil)))) (sg_tup rfl (sgs_cons (sg_name (i := 7) rfl nd rfl (by first | exact Or.inl rfl | exact Or.inr rfl)) (sgs_cons (sg_name (i := 8) rfl nd rfl (by first | exact Or.inl rfl | exact Or.inr rfl)) sgs_nil))) (sss_drop [7, 8, 9, 10] (sss_cons (ss_set (i := 9) rfl nd rfl (by first | exact Or.inl rfl | exact Or.inr rfl) (se_if (sb_cmp op_gtV v_gt (se_var (pv 7)) se_int (nomark _)) (se_ix ix_seq v_ix (se_var (pv 3)) (se_op op_sub v_sub (se_var (pv 7)) se_int) (fun _ _ => rfl)) (se_ti call_int1 b_int rfl (n_int F) boot_int (sa_cons (se_var (pv 2)) sa_nil))))
  (sss_cons (ss_set (i := 10) rfl nd rfl (by first | exact Or.inl rfl | exact Or.inr rfl) (se_if (sb_cmp op_ltV v_lt (se_var (pv 8)) (se_bi call_lenV b_len rfl (n_len F) boot_len (sa_cons (se_var (pv 3)) sa_nil)) (nomark _)) (se_ix ix_seq v_ix (se_var (pv 3)) (se_var (pv 8)) (fun _ _ => rfl)) (se_ti call_int1 b_int rfl (n_int F) boot_int (sa_cons (se_var (pv 2)) sa_nil))))
  (sss_one (ss_slsto (i := 6) (pv 6) (spt_some (se_var (pv 7))) (spt_some (se_var (pv 8))) (se_opL op_repR v_rep (se_lst (sd_cons (se_if (sb_cmp (op_eqP hr.units) v_eq (se_var (pv 9)) (se_var (pv 10)) (nomark _)) (se_var (pv 9)) (se_ti call_int1 b_int rfl (n_int F) boot_int (sa_cons (se_var (pv 2)) sa_nil))) sd_nil)) (se_op op_sub v_sub (se_var (pv 8)) (se_var (pv 7)))))))))))
  (sss_one (ss_ret (se_var (pv 6))))))))
theorem G_directions_told (F : Fx w K mg) (B : Bx K mg base) : FnG P w K mg base (tb K) "directions_told" 4 3 Z_directions_told [] := by
  obtain ⟨fd, hf, h⟩ := o_directions_told (P := P) (base := base) F B
  exact ⟨_, fd, _, [], [], h, g_directions_told F, hf.kp, FunD.bindsN hf fun _ _ _ _ _ _ us hl => match us, hl with | [_, _, _], _ => rfl, .nil, fun _ => rfl⟩
def N_resolved : List Str := ["classes", "right", "before", "kinds", "found", "kind", "way"]
abbrev b_resolved_0 : MS := (sDrop (sIf (mTru (mVar 1)) (sExp (mMut1 4 appF (mBi intD [(mOrV (mOp2 inD (mVar 5) (mC (.tup c_DIGITS))) (mOp2 eqD (mVar 6) (mC (.int 0))))]))) (sExp (mMut1 4 appF (mIf (mAnd (mTB (mOp2 inD (mVar 5) (mC (.tup c_DIGITS)))) (mTB (mOp2 eqD (mVar 6) (mC (.int 1))))) (mC (.int 2)) (mVar 6))))) [5, 6])
def m_resolved : MS := (sSeq (sSet 2 (mCall Z_strong_before [] [] [(mVar 0)]))
  (sSeq (sSet 3 (mCall Z_signs_joined [] [] [(mCall Z_digits_told [] [] [(mVar 0), (mVar 2)])]))
  (sSeq (sSet 4 (mLst []))
  (sSeq (sDrop (sFor (.tp [(.nm 5), (.nm 6)]) (mItS (mVar 3) (mCall Z_directions_told [] [] [(mVar 3), (mVar 2), (mVar 1)])) b_resolved_0) [5, 6])
  (sRet (mBi tupLD [(mVar 4)]))))))
def Z_resolved : Fn := runF (fun i => [0, 1].contains i) 2 5 m_resolved
theorem sc_resolved : FnScope N_resolved ["classes", "right"] (defScope (top 29)) := ⟨rfl, rfl, rfl, by decide +kernel, rfl, by decide +kernel, by decide +kernel⟩
theorem o_resolved (F : Fx w K mg) (B : Bx K mg base) : ∃ fd, FunD K "resolved" "resolved" (defArgs (top 29)) (defBody (top 29)) (defScope (top 29)) (d_resolved.dvs K) (d_resolved.kws K) (He.ga K "resolved") fd ∧ FO P w K mg base (tb K) 5 (He.ga K "resolved") fd ["classes", "right"] Z_resolved 2 := by
  obtain ⟨fd, hf⟩ := fd_resolved F
  refine ⟨fd, hf, fn_F hf sc_resolved (fun i => [0, 1].contains i) rfl rfl _ (fun _ _ => rfl) fun cdv A outer s H E hc hci hr hu => ?_⟩
  have cdE := code_of hf hc hci
  have tk : Takes (cxOf (L2.CX P w) P w K mg base N_resolved "resolved" (defScope (top 29)) (He.ga K "resolved") cdv A outer s H E) (fun cls d _ H => E cls d H) := takes_of rfl rfl rfl rfl
  have nd : N_resolved.Nodup := sc_resolved.nd
  have h52 := un52 hr
  have h9 : ∀ d v H, ¬ (tb K).ex 9 d v H := no9
  exact (sss_cons (ss_set (i := 2) rfl nd rfl (by first | exact Or.inl rfl | exact Or.inr rfl) (se_fn (G_strong_before F B) hr hu tk [] (sa_cons (se_var (pv 0)) sa_nil)))
  (sss_cons (ss_set (i := 3) rfl nd rfl (by first | exact Or.inl rfl | exact Or.inr rfl) (se_fn (G_signs_joined F B) hr hu tk [] (sa_cons (se_fn (G_digits_told F B) hr hu tk [] (sa_cons (se_var (pv 0)) (sa_cons (se_var (pv 2)) sa_nil))) sa_nil)))
  (sss_cons (ss_set (i := 4) rfl nd rfl (by first | exact Or.inl rfl | exact Or.inr rfl) (se_lst sd_nil))
  (sss_cons (ss_drop [5, 6] (ss_for (passes_of rfl) rfl (si_strict rfl (n_zip F) (se_var (pv 3)) (se_fn (G_directions_told F B) hr hu tk [] (sa_cons (se_var (pv 3)) (sa_cons (se_var (pv 2)) (sa_cons (se_var (pv 1)) sa_nil))))) (sg_tup rfl (sgs_cons (sg_name (i := 5) rfl nd rfl (by first | exact Or.inl rfl | exact Or.inr rfl)) (sgs_cons (sg_name (i := 6) rfl nd rfl (by first | exact Or.inl rfl | exact Or.inr rfl)) sgs_nil))) (sss_drop [5, 6] (sss_one (ss_if (sb_tru (se_var (pv 1))) (sss_one (ss_exp (se_mut1 (i := 4) PySem.F.slot_list_append PySem.F.type_list_append mt_append m_app (pv 4) (se_ti call_int1 b_int rfl (n_int F) boot_int (sa_cons (se_or (se_cmp (op_inV hr.units) v_in (se_var (pv 5)) (se_gref rfl (g_DIGITS F) (t_DIGITS F rfl)) (by with_unfolding_all rfl)) (se_one (se_cmp (op_eqP hr.units) v_eq (se_var (pv 6)) se_int (nomark _)))) sa_nil))))) (sss_one (ss_exp (se_mut1 (i := 4) PySem.F.slot_list_append PySem.F.type_list_append mt_append m_app (pv 4) (se_if (sw_pt (sw_and (sb_cmp (op_inV hr.units) v_in (se_var (pv 5)) (se_gref rfl (g_DIGITS F) (t_DIGITS F rfl)) (by with_unfolding_all rfl)) (sw_and1 (sb_cmp (op_eqP hr.units) v_eq (se_var (pv 6)) se_int (nomark _))))) se_int (se_var (pv 6)))))))))))
  (sss_one (ss_ret (se_ti call_tuple_of b_tupL rfl (n_tuple F) boot_tuple (sa_cons (se_var (pv 4)) sa_nil))))))))
theorem G_resolved (F : Fx w K mg) (B : Bx K mg base) : FnG P w K mg base (tb K) "resolved" 5 2 Z_resolved [] := by
  obtain ⟨fd, hf, h⟩ := o_resolved (P := P) (base := base) F B
  exact ⟨_, fd, _, [], [], h, g_resolved F, hf.kp, FunD.bindsN hf fun _ _ _ _ _ _ us hl => match us, hl with | [_, _], _ => rfl, .nil, fun _ => rfl⟩
def N_relative_levels : List Str := ["classes", "direction"]
def m_relative_levels : MS := (sSeq (sExp (mCall Z_need_text [] [] [(mVar 0), (mC (.str c_CLASSES))]))
  (sSeq (sExp (mCall Z_need_direction [] [] [(mVar 1), (mTup [(mC (.str c_LEFT)), (mC (.str c_RIGHT))])]))
  (sRet (mCall Z_resolved [] [] [(mVar 0), (mOp2 eqD (mVar 1) (mC (.str c_RIGHT)))]))))
def Z_relative_levels : Fn := runF (fun i => [0, 1].contains i) 2 0 m_relative_levels
theorem sc_relative_levels : FnScope N_relative_levels ["classes", "direction"] (defScope (top 30)) := ⟨rfl, rfl, rfl, by decide +kernel, rfl, by decide +kernel, by decide +kernel⟩
theorem o_relative_levels (F : Fx w K mg) (B : Bx K mg base) : ∃ fd, FunD K "relative_levels" "relative_levels" (defArgs (top 30)) (defBody (top 30)) (defScope (top 30)) (d_relative_levels.dvs K) (d_relative_levels.kws K) (He.ga K "relative_levels") fd ∧ FO P w K mg base (tb K) 6 (He.ga K "relative_levels") fd ["classes", "direction"] Z_relative_levels 2 := by
  obtain ⟨fd, hf⟩ := fd_relative_levels F
  refine ⟨fd, hf, fn_F hf sc_relative_levels (fun i => [0, 1].contains i) rfl rfl _ (fun _ _ => rfl) fun cdv A outer s H E hc hci hr hu => ?_⟩
  have cdE := code_of hf hc hci
  have tk : Takes (cxOf (L2.CX P w) P w K mg base N_relative_levels "relative_levels" (defScope (top 30)) (He.ga K "relative_levels") cdv A outer s H E) (fun cls d _ H => E cls d H) := takes_of rfl rfl rfl rfl
  have nd : N_relative_levels.Nodup := sc_relative_levels.nd
  have h52 := un52 hr
  have h9 : ∀ d v H, ¬ (tb K).ex 9 d v H := no9
  exact (sss_cons (ss_exp (se_fn (G_need_text F B) hr hu tk [] (sa_cons (se_var (pv 0)) (sa_cons (se_gstr rfl (v_CLASSES F)) sa_nil))))
  (sss_cons (ss_exp (se_fn (G_need_direction F B) hr hu tk [] (sa_cons (se_var (pv 1)) (sa_cons (se_tup (sd_cons (se_gstr rfl (v_LEFT F)) (sd_cons (se_gstr rfl (v_RIGHT F)) sd_nil))) sa_nil))))
  (sss_one (ss_ret (se_fn (G_resolved F B) hr hu tk [] (sa_cons (se_var (pv 0)) (sa_cons (se_cmp (op_eqP hr.units) v_eq (se_var (pv 1)) (se_gstr rfl (v_RIGHT F)) (nomark _)) sa_nil)))))))
theorem G_relative_levels (F : Fx w K mg) (B : Bx K mg base) : FnG P w K mg base (tb K) "relative_levels" 6 2 Z_relative_levels [] := by
  obtain ⟨fd, hf, h⟩ := o_relative_levels (P := P) (base := base) F B
  exact ⟨_, fd, _, [], [], h, g_relative_levels F, hf.kp, FunD.bindsN hf fun _ _ _ _ _ _ us hl => match us, hl with | [_, _], _ => rfl, .nil, fun _ => rfl⟩
def N__law_refused : List Str := ["_law_classes", "_law_word", "e"]
def m__law_refused : MS := (sSeq (sTryM [((fun k => match k with | 0 => some true | 1 => some false | _ => none), some 2, (sRet (mLst [(mC (.str [116, 101, 120, 116])), (mXf 2 0)]))), ((fun k => match k with | 0 => some false | 1 => some true | _ => none), some 2, (sRet (mLst [(mC (.str [119, 111, 114, 100])), (mBi reprZ [(mXf 2 1)])])))] (sExp (mCall Z_relative_levels [] [] [(mVar 0), (mVar 1)])))
  (sRet (mC .non)))
def Z__law_refused : Fn := runF (fun i => [0, 1].contains i) 2 1 m__law_refused
theorem sc__law_refused : FnScope N__law_refused ["_law_classes", "_law_word"] (defScope (top 36)) := ⟨rfl, rfl, rfl, by decide +kernel, rfl, by decide +kernel, by decide +kernel⟩
theorem o__law_refused (F : Fx w K mg) (B : Bx K mg base) : ∃ fd, FunD K "_law_refused" "_law_refused" (defArgs (top 36)) (defBody (top 36)) (defScope (top 36)) (d__law_refused.dvs K) (d__law_refused.kws K) (He.ga K "_law_refused") fd ∧ FO P w K mg base (tb K) 7 (He.ga K "_law_refused") fd ["_law_classes", "_law_word"] Z__law_refused 2 := by
  obtain ⟨fd, hf⟩ := fd__law_refused F
  refine ⟨fd, hf, fn_F hf sc__law_refused (fun i => [0, 1].contains i) rfl rfl _ (fun _ _ => rfl) fun cdv A outer s H E hc hci hr hu => ?_⟩
  have cdE := code_of hf hc hci
  have tk : Takes (cxOf (L2.CX P w) P w K mg base N__law_refused "_law_refused" (defScope (top 36)) (He.ga K "_law_refused") cdv A outer s H E) (fun cls d _ H => E cls d H) := takes_of rfl rfl rfl rfl
  have nd : N__law_refused.Nodup := sc__law_refused.nd
  have h52 := un52 hr
  have h9 : ∀ d v H, ¬ (tb K).ex 9 d v H := no9
  exact (sss_cons (ss_tryM rfl rfl nd tk (fun W pn xe tk _ => (sss_one (ss_exp (se_fn (G_relative_levels F B) hr hu tk [] (sa_cons (se_var (pv 0)) (sa_cons (se_var (pv 1)) sa_nil)))))) (HdF.named rfl rfl rfl ⟨rfl, by decide, .inl (g_BadText F)⟩ (by intro k b h; match k, h with | 0, h => (cases h; exact ex_2 F) | 1, h => (cases h; exact ex_3 F)) (fun a oe cls dx pn hz hf => (sss_one (ss_ret (se_lst (sd_cons (se_str (l := [116, 101, 120, 116])) (sd_cons (se_xf (i := 2) (k := 0) h9 (xf_BadText F) (na_BadText F) rfl (by decide) hz hf (pv 2)) sd_nil)))))) (HdF.named rfl rfl rfl ⟨rfl, by decide, .inl (g_BadWord F)⟩ (by intro k b h; match k, h with | 0, h => (cases h; exact ex_0 F) | 1, h => (cases h; exact ex_1 F)) (fun a oe cls dx pn hz hf => (sss_one (ss_ret (se_lst (sd_cons (se_str (l := [119, 111, 114, 100])) (sd_cons (se_bi (call_reprZ hu h52) b_reprZ rfl (n_repr F) boot_repr (sa_cons (se_xf (i := 2) (k := 1) h9 (xf_BadWord F) (na_BadWord F) rfl (by decide) hz hf (pv 2)) sa_nil)) sd_nil)))))) HdF.nil)))
  (sss_one (ss_ret se_non)))
theorem G__law_refused (F : Fx w K mg) (B : Bx K mg base) : FnG P w K mg base (tb K) "_law_refused" 7 2 Z__law_refused [] := by
  obtain ⟨fd, hf, h⟩ := o__law_refused (P := P) (base := base) F B
  exact ⟨_, fd, _, [], [], h, g__law_refused F, hf.kp, FunD.bindsN hf fun _ _ _ _ _ _ us hl => match us, hl with | [_, _], _ => rfl, .nil, fun _ => rfl⟩
def N__law_refusals_right : List Str := ["_law_bag_here", "_law_classes", "_law_at", "_law_sign", "_law_word", "_law_thing"]
abbrev b__law_refusals_right_0 : MS := (sDrop (sIf (mTB (mOp2 neD (mCall Z__law_refused [] [] [(mOp2 addD (mOp2 addD (mSl slS (mVar 1) none (some (mVar 2))) (mVar 3)) (mSl slS (mVar 1) (some (mVar 2)) none)), (mC (.str [117, 112]))]) (mLst [(mC (.str [116, 101, 120, 116])), (mVar 2)]))) (sRet (mC (.bl false))) sPass) [3])
abbrev b__law_refusals_right_1 : MS := (sDrop (sIf (mTB (mOp2 neD (mCall Z__law_refused [] [] [(mVar 1), (mVar 4)]) (mLst [(mC (.str [119, 111, 114, 100])), (mBi reprZ [(mVar 4)])]))) (sRet (mC (.bl false))) sPass) [4])
abbrev b__law_refusals_right_2 : MS := (sDrop (sIf (mTB (mOp2 neD (mCall Z__law_refused [] [] [(mVar 5), (mC (.str [108, 101, 102, 116]))]) (mLst [(mC (.str [116, 101, 120, 116])), (mC .non)]))) (sRet (mC (.bl false))) sPass) [5])
def m__law_refusals_right : MS := (sSeq (sSet 2 (mCall Z__law_take [.bo, .lk] [] [(mVar 0), (mOp2 addD (mBi lenD [(mVar 1)]) (mC (.int 1)))]))
  (sSeq (sDrop (sFor (.nm 3) (mIt itL (mLst [(mC (.str [97])), (mC (.str [88])), (mC (.str [48])), (mC (.str [32])), (mC (.str [67])), (mC (.str [108])), (mC (.str [62])), (mC (.str [10]))])) b__law_refusals_right_0) [3])
  (sSeq (sDrop (sFor (.nm 4) (mIt itL (mLst [(mC (.str [97, 117, 116, 111])), (mC (.str [])), (mC .non), (mC (.bl true)), (mC (.int 1)), (mLst [(mC (.str [108, 101, 102, 116]))]), (mC (.str [82, 105, 103, 104, 116]))])) b__law_refusals_right_1) [4])
  (sSeq (sDrop (sFor (.nm 5) (mIt itL (mLst [(mC .non), (mC (.int 0)), (mBl listSD [(mVar 1)]), (mOp2 repS (mC (.str [76])) (mC (.int 401))), (mTup [(mC (.str [76]))])])) b__law_refusals_right_2) [5])
  (sRet (mOp2 isD (mCall Z__law_refused [] [] [(mOp2 repS (mC (.str [76])) (mC (.int 400))), (mC (.str [108, 101, 102, 116]))]) (mC .non)))))))
def Z__law_refusals_right : Fn := runF (fun i => [0, 1].contains i) 2 4 m__law_refusals_right
theorem sc__law_refusals_right : FnScope N__law_refusals_right ["_law_bag_here", "_law_classes"] (defScope (top 37)) := ⟨rfl, rfl, rfl, by decide +kernel, rfl, by decide +kernel, by decide +kernel⟩
theorem o__law_refusals_right (F : Fx w K mg) (B : Bx K mg base) : ∃ fd, FunD K "_law_refusals_right" "_law_refusals_right" (defArgs (top 37)) (defBody (top 37)) (defScope (top 37)) (d__law_refusals_right.dvs K) (d__law_refusals_right.kws K) (He.ga K "_law_refusals_right") fd ∧ FO P w K mg base (tb K) 8 (He.ga K "_law_refusals_right") fd ["_law_bag_here", "_law_classes"] Z__law_refusals_right 2 := by
  obtain ⟨fd, hf⟩ := fd__law_refusals_right F
  refine ⟨fd, hf, fn_F hf sc__law_refusals_right (fun i => [0, 1].contains i) rfl rfl _ (fun _ _ => rfl) fun cdv A outer s H E hc hci hr hu => ?_⟩
  have cdE := code_of hf hc hci
  have tk : Takes (cxOf (L2.CX P w) P w K mg base N__law_refusals_right "_law_refusals_right" (defScope (top 37)) (He.ga K "_law_refusals_right") cdv A outer s H E) (fun cls d _ H => E cls d H) := takes_of rfl rfl rfl rfl
  have nd : N__law_refusals_right.Nodup := sc__law_refusals_right.nd
  have h52 := un52 hr
  have h9 : ∀ d v H, ¬ (tb K).ex 9 d v H := no9
  exact (sss_cons (ss_set (i := 2) rfl nd rfl (by first | exact Or.inl rfl | exact Or.inr rfl) (se_fn (G__law_take F B) hr hu tk [.bo, .lk] (sa_cons (se_var (pv 0)) (sa_cons (se_op op_addV v_add (se_bi call_lenV b_len rfl (n_len F) boot_len (sa_cons (se_var (pv 1)) sa_nil)) se_int) sa_nil))))
  (sss_cons (ss_drop [3] (ss_for (passes_of rfl) rfl (si_list (se_lst (sd_cons (se_str (l := [97])) (sd_cons (se_str (l := [88])) (sd_cons (se_str (l := [48])) (sd_cons (se_str (l := [32])) (sd_cons (se_str (l := [67])) (sd_cons (se_str (l := [108])) (sd_cons (se_str (l := [62])) (sd_cons (se_str (l := [10])) sd_nil)))))))))) (sg_name (i := 3) rfl nd rfl (by first | exact Or.inl rfl | exact Or.inr rfl)) (sss_drop [3] (sss_one (ss_if (sb_cmp (op_neP hr.units) v_ne (se_fn (G__law_refused F B) hr hu tk [] (sa_cons (se_op op_addV v_add (se_op op_addV v_add (se_sl sl_str sl_S (se_var (pv 1)) spt_none (spt_some (se_var (pv 2)))) (se_var (pv 3))) (se_sl sl_str sl_S (se_var (pv 1)) (spt_some (se_var (pv 2))) spt_none)) (sa_cons (se_str (l := [117, 112])) sa_nil))) (se_lst (sd_cons (se_str (l := [116, 101, 120, 116])) (sd_cons (se_var (pv 2)) sd_nil))) (nomark _)) (sss_one (ss_ret se_bl)) sss_nil)))))
  (sss_cons (ss_drop [4] (ss_for (passes_of rfl) rfl (si_list (se_lst (sd_cons (se_str (l := [97, 117, 116, 111])) (sd_cons (se_str (l := [])) (sd_cons se_non (sd_cons se_bl (sd_cons se_int (sd_cons (se_lst (sd_cons (se_str (l := [108, 101, 102, 116])) sd_nil)) (sd_cons (se_str (l := [82, 105, 103, 104, 116])) sd_nil))))))))) (sg_name (i := 4) rfl nd rfl (by first | exact Or.inl rfl | exact Or.inr rfl)) (sss_drop [4] (sss_one (ss_if (sb_cmp (op_neP hr.units) v_ne (se_fn (G__law_refused F B) hr hu tk [] (sa_cons (se_var (pv 1)) (sa_cons (se_var (pv 4)) sa_nil))) (se_lst (sd_cons (se_str (l := [119, 111, 114, 100])) (sd_cons (se_bi (call_reprZ hu h52) b_reprZ rfl (n_repr F) boot_repr (sa_cons (se_var (pv 4)) sa_nil)) sd_nil))) (nomark _)) (sss_one (ss_ret se_bl)) sss_nil)))))
  (sss_cons (ss_drop [5] (ss_for (passes_of rfl) rfl (si_list (se_lst (sd_cons se_non (sd_cons se_int (sd_cons (se_tl (call_listS rfl) b_listS rfl (n_list F) boot_list (sa_cons (se_var (pv 1)) sa_nil)) (sd_cons (se_op op_repS v_repS (se_str (l := [76])) se_int) (sd_cons (se_tup (sd_cons (se_str (l := [76])) sd_nil)) sd_nil))))))) (sg_name (i := 5) rfl nd rfl (by first | exact Or.inl rfl | exact Or.inr rfl)) (sss_drop [5] (sss_one (ss_if (sb_cmp (op_neP hr.units) v_ne (se_fn (G__law_refused F B) hr hu tk [] (sa_cons (se_var (pv 5)) (sa_cons (se_str (l := [108, 101, 102, 116])) sa_nil))) (se_lst (sd_cons (se_str (l := [116, 101, 120, 116])) (sd_cons se_non sd_nil))) (nomark _)) (sss_one (ss_ret se_bl)) sss_nil)))))
  (sss_one (ss_ret (se_cmp op_isN v_isN (se_fn (G__law_refused F B) hr hu tk [] (sa_cons (se_op op_repS v_repS (se_str (l := [76])) se_int) (sa_cons (se_str (l := [108, 101, 102, 116])) sa_nil))) se_non (nomark _))))))))
theorem G__law_refusals_right (F : Fx w K mg) (B : Bx K mg base) : FnG P w K mg base (tb K) "_law_refusals_right" 8 2 Z__law_refusals_right [] := by
  obtain ⟨fd, hf, h⟩ := o__law_refusals_right (P := P) (base := base) F B
  exact ⟨_, fd, _, [], [], h, g__law_refusals_right F, hf.kp, FunD.bindsN hf fun _ _ _ _ _ _ us hl => match us, hl with | [_, _], _ => rfl, .nil, fun _ => rfl⟩
def N__law_digits : List Str := ["_law_classes", "_law_strong", "_law_found", "_law_at", "_law_word", "_law_low", "_law_high", "_law_is_beside"]
abbrev b__law_digits_0 : MS := (sDrop (sIf (mTB (mOp2 eqD (mVar 4) (mC (.str [68])))) (sSto 2 (mVar 3) (mIf (mTB (mOp2 eqD (mOp2 ixD (mVar 1) (mVar 3)) (mC (.str [65])))) (mC (.str [101])) (mC (.str [100])))) sPass) [3, 4])
abbrev b__law_digits_1 : MS := (sDrop (sIf (mAnd (mTB (mOp2 eqD (mOp2 ixD (mVar 0) (mVar 3)) (mC (.str [83])))) (mAnd (mTB (mOp2 eqD (mOp2 ixD (mVar 0) (mOp2 subD (mVar 3) (mC (.int 1)))) (mC (.str [68])))) (mTB (mOp2 eqD (mOp2 ixD (mVar 0) (mOp2 addD (mVar 3) (mC (.int 1)))) (mC (.str [68])))))) (sSto 2 (mVar 3) (mOp2 ixD (mVar 2) (mOp2 subD (mVar 3) (mC (.int 1))))) sPass) [3])
abbrev b__law_digits_2 : MS := (sAug 5 subD (mC (.int 1)))
abbrev b__law_digits_3 : MS := (sAug 6 addI (mC (.int 1)))
abbrev b__law_digits_4 : MS := (sDrop (sDrop (sIf (mTB (mOp2 eqD (mVar 4) (mC (.str [84])))) (sSeq (sPar [5, 6] [(mVar 3), (mVar 3)])
  (sSeq (sWhile 1000 (mAnd (mTB (mOp2 gtD (mVar 5) (mC (.int 0)))) (mTB (mOp2 eqD (mOp2 ixD (mVar 0) (mOp2 subD (mVar 5) (mC (.int 1)))) (mC (.str [84]))))) b__law_digits_2)
  (sSeq (sWhile 1000 (mAnd (mTB (mOp2 ltD (mOp2 addD (mVar 6) (mC (.int 1))) (mBi lenD [(mVar 0)]))) (mTB (mOp2 eqD (mOp2 ixD (mVar 0) (mOp2 addD (mVar 6) (mC (.int 1)))) (mC (.str [84]))))) b__law_digits_3)
  (sSeq (sSet 7 (mAndV (mOp2 gtD (mVar 5) (mC (.int 0))) (mAndV (mOp2 eqD (mOp2 ixD (mVar 2) (mOp2 subD (mVar 5) (mC (.int 1)))) (mC (.str [100]))) (mOp2 neD (mOp2 ixD (mVar 0) (mOp2 subD (mVar 5) (mC (.int 1)))) (mC (.str [84]))))))
  (sSto 2 (mVar 3) (mIf (mOr (mTru (mVar 7)) (mTB (mOp2 eqD (mSlL slL (mVar 2) (some (mOp2 addD (mVar 6) (mC (.int 1)))) (some (mOp2 addD (mVar 6) (mC (.int 2))))) (mLst [(mC (.str [100]))])))) (mC (.str [100])) (mC (.str [78])))))))) sPass) [5, 6, 7]) [3, 4, 5, 6, 7])
def m__law_digits : MS := (sSeq (sSet 2 (mBl listSD [(mVar 0)]))
  (sSeq (sDrop (sFor (.tp [(.nm 3), (.nm 4)]) (mIt itES (mVar 0)) b__law_digits_0) [3, 4])
  (sSeq (sDrop (sFor (.nm 3) (mItR (mC (.int 1)) (mOp2 subD (mBi lenD [(mVar 0)]) (mC (.int 1)))) b__law_digits_1) [3])
  (sSeq (sDrop (sFor (.tp [(.nm 3), (.nm 4)]) (mIt itES (mVar 0)) b__law_digits_4) [3, 4, 5, 6, 7])
  (sRet (mLc [4] (.nm 4) (mIt itL (mVar 2)) mYes (mIf (mTB (mOp2 eqD (mVar 4) (mC (.str [83])))) (mC (.str [78])) (mVar 4))))))))
def Z__law_digits : Fn := runF (fun i => [0, 1].contains i) 2 6 m__law_digits
theorem sc__law_digits : FnScope N__law_digits ["_law_classes", "_law_strong"] (defScope (top 34)) := ⟨rfl, rfl, rfl, by decide +kernel, rfl, by decide +kernel, by decide +kernel⟩
theorem o__law_digits (F : Fx w K mg) (B : Bx K mg base) : ∃ fd, FunD K "_law_digits" "_law_digits" (defArgs (top 34)) (defBody (top 34)) (defScope (top 34)) (d__law_digits.dvs K) (d__law_digits.kws K) (He.ga K "_law_digits") fd ∧ FO P w K mg base (tb K) 1 (He.ga K "_law_digits") fd ["_law_classes", "_law_strong"] Z__law_digits 2 := by
  obtain ⟨fd, hf⟩ := fd__law_digits F
  refine ⟨fd, hf, fn_F hf sc__law_digits (fun i => [0, 1].contains i) rfl rfl _ (fun _ _ => rfl) fun cdv A outer s H E hc hci hr hu => ?_⟩
  have cdE := code_of hf hc hci
  have tk : Takes (cxOf (L2.CX P w) P w K mg base N__law_digits "_law_digits" (defScope (top 34)) (He.ga K "_law_digits") cdv A outer s H E) (fun cls d _ H => E cls d H) := takes_of rfl rfl rfl rfl
  have nd : N__law_digits.Nodup := sc__law_digits.nd
  have h52 := un52 hr
  have h9 : ∀ d v H, ¬ (tb K).ex 9 d v H := no9
  exact (sss_cons (ss_set (i := 2) rfl nd rfl (by first | exact Or.inl rfl | exact Or.inr rfl) (se_tl (call_listS rfl) b_listS rfl (n_list F) boot_list (sa_cons (se_var (pv 0)) sa_nil)))
  (sss_cons (ss_drop [3, 4] (ss_for (passes_of rfl) rfl (si_enumS rfl (n_enumerate F) (se_var (pv 0))) (sg_tup rfl (sgs_cons (sg_name (i := 3) rfl nd rfl (by first | exact Or.inl rfl | exact Or.inr rfl)) (sgs_cons (sg_name (i := 4) rfl nd rfl (by first | exact Or.inl rfl | exact Or.inr rfl)) sgs_nil))) (sss_drop [3, 4] (sss_one (ss_if (sb_cmp (op_eqP hr.units) v_eq (se_var (pv 4)) (se_str (l := [68])) (nomark _)) (sss_one (ss_sto (i := 2) (pv 2) (se_var (pv 3)) (se_if (sb_cmp (op_eqP hr.units) v_eq (se_ix ix_seq v_ix (se_var (pv 1)) (se_var (pv 3)) (fun _ _ => rfl)) (se_str (l := [65])) (nomark _)) (se_str (l := [101])) (se_str (l := [100]))) (fun _ => rfl))) sss_nil)))))
  (sss_cons (ss_drop [3] (ss_for (passes_of rfl) rfl (si_rng2 rfl (n_range F) se_int (se_op op_sub v_sub (se_bi call_lenV b_len rfl (n_len F) boot_len (sa_cons (se_var (pv 0)) sa_nil)) se_int)) (sg_name (i := 3) rfl nd rfl (by first | exact Or.inl rfl | exact Or.inr rfl)) (sss_drop [3] (sss_one (ss_if (sw_pt (sw_and (sb_cmp (op_eqP hr.units) v_eq (se_ix ix_seq v_ix (se_var (pv 0)) (se_var (pv 3)) (fun _ _ => rfl)) (se_str (l := [83])) (nomark _)) (sw_and (sb_cmp (op_eqP hr.units) v_eq (se_ix ix_seq v_ix (se_var (pv 0)) (se_op op_sub v_sub (se_var (pv 3)) se_int) (fun _ _ => rfl)) (se_str (l := [68])) (nomark _)) (sw_and1 (sb_cmp (op_eqP hr.units) v_eq (se_ix ix_seq v_ix (se_var (pv 0)) (se_op op_addV v_add (se_var (pv 3)) se_int) (fun _ _ => rfl)) (se_str (l := [68])) (nomark _)))))) (sss_one (ss_sto (i := 2) (pv 2) (se_var (pv 3)) (se_ix ix_seq v_ix (se_var (pv 2)) (se_op op_sub v_sub (se_var (pv 3)) se_int) (fun _ _ => rfl)) (fun _ => rfl))) sss_nil)))))
  (sss_cons (ss_drop [3, 4, 5, 6, 7] (ss_for (passes_of rfl) rfl (si_enumS rfl (n_enumerate F) (se_var (pv 0))) (sg_tup rfl (sgs_cons (sg_name (i := 3) rfl nd rfl (by first | exact Or.inl rfl | exact Or.inr rfl)) (sgs_cons (sg_name (i := 4) rfl nd rfl (by first | exact Or.inl rfl | exact Or.inr rfl)) sgs_nil))) (sss_drop [3, 4, 5, 6, 7] (sss_one (ss_drop [5, 6, 7] (ss_if (sb_cmp (op_eqP hr.units) v_eq (se_var (pv 4)) (se_str (l := [84])) (nomark _)) (sss_cons (ss_par (i := 5) (j := 6) rfl rfl rfl nd rfl rfl (by decide) rfl rfl (so_cons (se_var (pv 3)) (so_cons (se_var (pv 3)) so_nil)) (by rfl))
  (sss_cons (ss_while 1000 (passes_of rfl) (sw_pt (sw_and (sb_cmp op_gtV v_gt (se_var (pv 5)) se_int (nomark _)) (sw_and1 (sb_cmp (op_eqP hr.units) v_eq (se_ix ix_seq v_ix (se_var (pv 0)) (se_op op_sub v_sub (se_var (pv 5)) se_int) (fun _ _ => rfl)) (se_str (l := [84])) (nomark _))))) (sss_one (ss_aug (i := 5) rfl nd rfl (by first | exact Or.inl rfl | exact Or.inr rfl) se_int ip_sub ip_subV)))
  (sss_cons (ss_while 1000 (passes_of rfl) (sw_pt (sw_and (sb_cmp op_ltV v_lt (se_op op_addV v_add (se_var (pv 6)) se_int) (se_bi call_lenV b_len rfl (n_len F) boot_len (sa_cons (se_var (pv 0)) sa_nil)) (nomark _)) (sw_and1 (sb_cmp (op_eqP hr.units) v_eq (se_ix ix_seq v_ix (se_var (pv 0)) (se_op op_addV v_add (se_var (pv 6)) se_int) (fun _ _ => rfl)) (se_str (l := [84])) (nomark _))))) (sss_one (ss_aug (i := 6) rfl nd rfl (by first | exact Or.inl rfl | exact Or.inr rfl) se_int ip_add ip_addV)))
  (sss_cons (ss_set (i := 7) rfl nd rfl (by first | exact Or.inl rfl | exact Or.inr rfl) (se_and (se_cmp op_gtV v_gt (se_var (pv 5)) se_int (nomark _)) (se_and (se_cmp (op_eqP hr.units) v_eq (se_ix ix_seq v_ix (se_var (pv 2)) (se_op op_sub v_sub (se_var (pv 5)) se_int) (fun _ _ => rfl)) (se_str (l := [100])) (nomark _)) (se_one (se_cmp (op_neP hr.units) v_ne (se_ix ix_seq v_ix (se_var (pv 0)) (se_op op_sub v_sub (se_var (pv 5)) se_int) (fun _ _ => rfl)) (se_str (l := [84])) (nomark _))))))
  (sss_one (ss_sto (i := 2) (pv 2) (se_var (pv 3)) (se_if (sw_pt (sw_or (sb_tru (se_var (pv 7))) (sw_or1 (sb_cmp (op_eqP hr.units) v_eq (se_slL sl_list sl_L (se_var (pv 2)) (spt_some (se_op op_addV v_add (se_var (pv 6)) se_int)) (spt_some (se_op op_addV v_add (se_var (pv 6)) se_int))) (se_lst (sd_cons (se_str (l := [100])) sd_nil)) (nomark _))))) (se_str (l := [100])) (se_str (l := [78]))) (fun _ => rfl))))))) sss_nil))))))
  (sss_one (ss_ret (se_lc (own := [("_law_word", 4)]) rfl nd (si_list (se_var (pv 2))) (blkOk_by (own := [("_law_word", 4)]) (N := N__law_digits) (sc := defScope (top 34)) (by decide +kernel)) (fun _ _ _ _ _ => (sg_name (i := 4) rfl nd rfl (by first | exact Or.inl rfl | exact Or.inr rfl))) (fun _ _ _ _ _ => sts_nil) (fun _ _ _ _ _ => (se_if (sb_cmp (op_eqP hr.units) v_eq (se_var (pv 4)) (se_str (l := [83])) (nomark _)) (se_str (l := [78])) (se_var (pv 4)))))))))))
theorem G__law_digits (F : Fx w K mg) (B : Bx K mg base) : FnG P w K mg base (tb K) "_law_digits" 1 2 Z__law_digits [] := by
  obtain ⟨fd, hf, h⟩ := o__law_digits (P := P) (base := base) F B
  exact ⟨_, fd, _, [], [], h, g__law_digits F, hf.kp, FunD.bindsN hf fun _ _ _ _ _ _ us hl => match us, hl with | [_, _], _ => rfl, .nil, fun _ => rfl⟩
def N__law_relative : List Str := ["_law_classes", "_law_right", "_law_strong", "_law_last", "_law_found", "_law_word", "_law_marked", "_law_ways", "_law_at", "_law_kind", "_law_ahead", "_law_behind", "_law_way"]
abbrev b__law_relative_0 : MS := (sDrop (sSeq (sExp (mMut1 2 appF (mVar 3)))
  (sSet 3 (mIf (mTB (mOp2 inD (mVar 5) (mC (.str [76, 82, 65])))) (mVar 5) (mVar 3)))) [5])
abbrev b__law_relative_1 : MS := (sDrop (sSeq (sSet 10 (mOl2 catL (mSlL slL (mLc [12] (.nm 12) (mIt itL (mSlL slL (mVar 7) none (some (mVar 8)))) (mTB (mOp2 ltD (mVar 12) (mC (.int 2)))) (mVar 12)) (some (mOp1 negD (mC (.int 1)))) none) (mLst [(mBi intD [(mVar 1)])])))
  (sSeq (sSet 11 (mOl2 catL (mSlL slL (mLc [12] (.nm 12) (mIt itL (mSlL slL (mVar 7) (some (mVar 8)) none)) (mTB (mOp2 ltD (mVar 12) (mC (.int 2)))) (mVar 12)) none (some (mC (.int 1)))) (mLst [(mBi intD [(mVar 1)])])))
  (sSeq (sSet 12 (mOp2 ixD (mVar 7) (mVar 8)))
  (sSeq (sIf (mTB (mOp2 eqD (mVar 12) (mC (.int 2)))) (sSet 12 (mIf (mTB (mOp2 eqD (mOp2 ixD (mVar 10) (mC (.int 0))) (mOp2 ixD (mVar 11) (mC (.int 0))))) (mOp2 ixD (mVar 10) (mC (.int 0))) (mBi intD [(mVar 1)]))) sPass)
  (sIf (mTru (mVar 1)) (sExp (mMut1 4 appF (mBi intD [(mOrV (mOp2 inD (mVar 9) (mC (.str [100, 101]))) (mOp2 eqD (mVar 12) (mC (.int 0))))]))) (sExp (mMut1 4 appF (mIf (mAnd (mTB (mOp2 inD (mVar 9) (mC (.str [100, 101])))) (mTB (mOp2 eqD (mVar 12) (mC (.int 1))))) (mC (.int 2)) (mVar 12))))))))) [8, 9, 10, 11, 12])
def m__law_relative : MS := (sSeq (sPar [2, 3, 4] [(mLst []), (mIf (mTru (mVar 1)) (mC (.str [82])) (mC (.str [76]))), (mLst [])])
  (sSeq (sDrop (sFor (.nm 5) (mIt itS (mVar 0)) b__law_relative_0) [3, 5])
  (sSeq (sSet 6 (mCall Z__law_digits [] [] [(mVar 0), (mVar 2)]))
  (sSeq (sSet 7 (mLc [8] (.nm 8) (mIt itR1 (mBi lenD [(mVar 6)])) mYes (mGet2 (mDct [(.s [76], (mC (.int 0))), (.s [82], (mC (.int 1))), (.s [65], (mC (.int 1))), (.s [78], (mC (.int 2)))]) (mOp2 ixD (mVar 6) (mVar 8)) (mBi intD [(mOp2 neD (mOp2 ixD (mVar 2) (mVar 8)) (mC (.str [76])))]))))
  (sSeq (sDrop (sFor (.tp [(.nm 8), (.nm 9)]) (mIt itEL (mVar 6)) b__law_relative_1) [8, 9, 10, 11, 12])
  (sRet (mVar 4)))))))
def Z__law_relative : Fn := runF (fun i => [0, 1].contains i) 2 11 m__law_relative
theorem sc__law_relative : FnScope N__law_relative ["_law_classes", "_law_right"] (defScope (top 35)) := ⟨rfl, rfl, rfl, by decide +kernel, rfl, by decide +kernel, by decide +kernel⟩
theorem o__law_relative (F : Fx w K mg) (B : Bx K mg base) : ∃ fd, FunD K "_law_relative" "_law_relative" (defArgs (top 35)) (defBody (top 35)) (defScope (top 35)) (d__law_relative.dvs K) (d__law_relative.kws K) (He.ga K "_law_relative") fd ∧ FO P w K mg base (tb K) 2 (He.ga K "_law_relative") fd ["_law_classes", "_law_right"] Z__law_relative 2 := by
  obtain ⟨fd, hf⟩ := fd__law_relative F
  refine ⟨fd, hf, fn_F hf sc__law_relative (fun i => [0, 1].contains i) rfl rfl _ (fun _ _ => rfl) fun cdv A outer s H E hc hci hr hu => ?_⟩
  have cdE := code_of hf hc hci
  have tk : Takes (cxOf (L2.CX P w) P w K mg base N__law_relative "_law_relative" (defScope (top 35)) (He.ga K "_law_relative") cdv A outer s H E) (fun cls d _ H => E cls d H) := takes_of rfl rfl rfl rfl
  have nd : N__law_relative.Nodup := sc__law_relative.nd
  have h52 := un52 hr
  have h9 : ∀ d v H, ¬ (tb K).ex 9 d v H := no9
  exact (sss_cons (ss_parU3 (i := 2) (j := 3) (l := 4) rfl rfl rfl rfl nd rfl rfl rfl (by first | exact Or.inl rfl | exact Or.inr rfl) (by first | exact Or.inl rfl | exact Or.inr rfl) (by first | exact Or.inl rfl | exact Or.inr rfl) (so_cons (se_lst sd_nil) (so_cons (se_if (sb_tru (se_var (pv 1))) (se_str (l := [82])) (se_str (l := [76]))) (so_cons (se_lst sd_nil) so_nil))))
  (sss_cons (ss_drop [3, 5] (ss_for (passes_of rfl) rfl (si_str (se_var (pv 0))) (sg_name (i := 5) rfl nd rfl (by first | exact Or.inl rfl | exact Or.inr rfl)) (sss_drop [5] (sss_cons (ss_exp (se_mut1 (i := 2) PySem.F.slot_list_append PySem.F.type_list_append mt_append m_app (pv 2) (se_var (pv 3))))
  (sss_one (ss_set (i := 3) rfl nd rfl (by first | exact Or.inl rfl | exact Or.inr rfl) (se_if (sb_cmp (op_inV hr.units) v_in (se_var (pv 5)) (se_str (l := [76, 82, 65])) (by with_unfolding_all rfl)) (se_var (pv 5)) (se_var (pv 3)))))))))
  (sss_cons (ss_set (i := 6) rfl nd rfl (by first | exact Or.inl rfl | exact Or.inr rfl) (se_fn (G__law_digits F B) hr hu tk [] (sa_cons (se_var (pv 0)) (sa_cons (se_var (pv 2)) sa_nil))))
  (sss_cons (ss_setLc (i := 7) (own := [("_law_at", 8)]) rfl rfl nd rfl rfl (sw_true rfl rfl rfl (by decide +kernel)) (si_rng1 rfl (n_range F) (se_bi call_lenV b_len rfl (n_len F) boot_len (sa_cons (se_var (pv 6)) sa_nil))) (blkOk_by (own := [("_law_at", 8)]) (N := N__law_relative) (sc := defScope (top 35)) (by decide +kernel)) (fun _ _ _ _ _ => (sg_name (i := 8) rfl nd rfl (by first | exact Or.inl rfl | exact Or.inr rfl))) (fun _ _ _ _ _ => sts_nil) (fun _ _ _ _ _ => (se_get2 (u1 hr) (se_dct (sdc_cons (k := .s [76]) pe_str se_int (sdc_cons (k := .s [82]) pe_str se_int (sdc_cons (k := .s [65]) pe_str se_int (sdc_cons (k := .s [78]) pe_str se_int sdc_nil))))) (se_ix ix_seq v_ix (se_var (pv 6)) (se_var (pv 8)) (fun _ _ => rfl)) (se_ti call_int1 b_int rfl (n_int F) boot_int (sa_cons (se_cmp (op_neP hr.units) v_ne (se_ix ix_seq v_ix (se_var (pv 2)) (se_var (pv 8)) (fun _ _ => rfl)) (se_str (l := [76])) (nomark _)) sa_nil)) ⟨rfl, rfl, rfl, rfl⟩)))
  (sss_cons (ss_drop [8, 9, 10, 11, 12] (ss_for (passes_of rfl) rfl (si_enumL rfl (n_enumerate F) (se_var (pv 6))) (sg_tup rfl (sgs_cons (sg_name (i := 8) rfl nd rfl (by first | exact Or.inl rfl | exact Or.inr rfl)) (sgs_cons (sg_name (i := 9) rfl nd rfl (by first | exact Or.inl rfl | exact Or.inr rfl)) sgs_nil))) (sss_drop [8, 9, 10, 11, 12] (sss_cons (ss_set (i := 10) rfl nd rfl (by first | exact Or.inl rfl | exact Or.inr rfl) (se_opL op_catR v_cat (se_slL sl_list sl_L (se_lc (own := [("_law_way", 12)]) rfl nd (si_list (se_slL sl_list sl_L (se_var (pv 7)) spt_none (spt_some (se_var (pv 8))))) (blkOk_by (own := [("_law_way", 12)]) (N := N__law_relative) (sc := defScope (top 35)) (by decide +kernel)) (fun _ _ _ _ _ => (sg_name (i := 12) rfl nd rfl (by first | exact Or.inl rfl | exact Or.inr rfl))) (fun _ _ _ _ _ => (sts_one (sb_cmp op_ltV v_lt (se_var (pv 12)) se_int (nomark _)))) (fun _ _ _ _ _ => (se_var (pv 12)))) (spt_some (se_un un_neg v_neg se_int)) spt_none) (se_lst (sd_cons (se_ti call_int1 b_int rfl (n_int F) boot_int (sa_cons (se_var (pv 1)) sa_nil)) sd_nil))))
  (sss_cons (ss_set (i := 11) rfl nd rfl (by first | exact Or.inl rfl | exact Or.inr rfl) (se_opL op_catR v_cat (se_slL sl_list sl_L (se_lc (own := [("_law_way", 12)]) rfl nd (si_list (se_slL sl_list sl_L (se_var (pv 7)) (spt_some (se_var (pv 8))) spt_none)) (blkOk_by (own := [("_law_way", 12)]) (N := N__law_relative) (sc := defScope (top 35)) (by decide +kernel)) (fun _ _ _ _ _ => (sg_name (i := 12) rfl nd rfl (by first | exact Or.inl rfl | exact Or.inr rfl))) (fun _ _ _ _ _ => (sts_one (sb_cmp op_ltV v_lt (se_var (pv 12)) se_int (nomark _)))) (fun _ _ _ _ _ => (se_var (pv 12)))) spt_none (spt_some se_int)) (se_lst (sd_cons (se_ti call_int1 b_int rfl (n_int F) boot_int (sa_cons (se_var (pv 1)) sa_nil)) sd_nil))))
  (sss_cons (ss_set (i := 12) rfl nd rfl (by first | exact Or.inl rfl | exact Or.inr rfl) (se_ix ix_seq v_ix (se_var (pv 7)) (se_var (pv 8)) (fun _ _ => rfl)))
  (sss_cons (ss_if (sb_cmp (op_eqP hr.units) v_eq (se_var (pv 12)) se_int (nomark _)) (sss_one (ss_set (i := 12) rfl nd rfl (by first | exact Or.inl rfl | exact Or.inr rfl) (se_if (sb_cmp (op_eqP hr.units) v_eq (se_ix ix_seq v_ix (se_var (pv 10)) se_int (fun _ _ => rfl)) (se_ix ix_seq v_ix (se_var (pv 11)) se_int (fun _ _ => rfl)) (nomark _)) (se_ix ix_seq v_ix (se_var (pv 10)) se_int (fun _ _ => rfl)) (se_ti call_int1 b_int rfl (n_int F) boot_int (sa_cons (se_var (pv 1)) sa_nil))))) sss_nil)
  (sss_one (ss_if (sb_tru (se_var (pv 1))) (sss_one (ss_exp (se_mut1 (i := 4) PySem.F.slot_list_append PySem.F.type_list_append mt_append m_app (pv 4) (se_ti call_int1 b_int rfl (n_int F) boot_int (sa_cons (se_or (se_cmp (op_inV hr.units) v_in (se_var (pv 9)) (se_str (l := [100, 101])) (by with_unfolding_all rfl)) (se_one (se_cmp (op_eqP hr.units) v_eq (se_var (pv 12)) se_int (nomark _)))) sa_nil))))) (sss_one (ss_exp (se_mut1 (i := 4) PySem.F.slot_list_append PySem.F.type_list_append mt_append m_app (pv 4) (se_if (sw_pt (sw_and (sb_cmp (op_inV hr.units) v_in (se_var (pv 9)) (se_str (l := [100, 101])) (by with_unfolding_all rfl)) (sw_and1 (sb_cmp (op_eqP hr.units) v_eq (se_var (pv 12)) se_int (nomark _))))) se_int (se_var (pv 12)))))))))))))))
  (sss_one (ss_ret (se_var (pv 4)))))))))
theorem G__law_relative (F : Fx w K mg) (B : Bx K mg base) : FnG P w K mg base (tb K) "_law_relative" 2 2 Z__law_relative [] := by
  obtain ⟨fd, hf, h⟩ := o__law_relative (P := P) (base := base) F B
  exact ⟨_, fd, _, [], [], h, g__law_relative F, hf.kp, FunD.bindsN hf fun _ _ _ _ _ _ us hl => match us, hl with | [_, _], _ => rfl, .nil, fun _ => rfl⟩
def N_law : List Str := ["_law_script", "_law_letters", "_law_at", "_law_bag_here", "_law_classes", "_law_turn", "_law_few", "_law_word", "_law_begin", "_law_one", "_law_other", "_law_told", "_law_k"]
abbrev b_law_0 : MS := (sDrop (sIf (mTB (mOp2 neD (mCall Z_relative_levels [] [] [(mVar 4), (mVar 7)]) (mBi tupLD [(mCall Z__law_relative [] [] [(mVar 4), (mOp2 eqD (mVar 7) (mC (.str [114, 105, 103, 104, 116])))])]))) (sRet (mC (.bl false))) sPass) [7])
abbrev b_law_1 : MS := (sDrop (sSeq (sSet 6 (mOl2 catL (mLc [12] (.nm 12) (mIt itR1 (mOp2 addD (mC (.int 2)) (mCall Z__law_take [.bo, .lk] [] [(mVar 3), (mC (.int 5))]))) mYes (mOp2 ixD (mVar 1) (mCall Z__law_take [.bo, .lk] [] [(mVar 3), (mC (.int 7))]))) (mOl2 repL (mLst [(mC (.str [68]))]) (mCall Z__law_take [.bo, .lk] [] [(mVar 3), (mC (.int 2))]))))
  (sSeq (sSet 4 (mSm1 (fun x y => joinD (.str x) y) (mC (.str [])) (mLc [12] (.nm 12) (mIt itR1 (mCall Z__law_take [.bo, .lk] [] [(mVar 3), (mC (.int 31))])) mYes (mOp2 ixD (mVar 6) (mCall Z__law_take [.bo, .lk] [] [(mVar 3), (mBi lenD [(mVar 6)])])))))
  (sDrop (sFor (.nm 7) (mIt itT (mTup [(mC (.str [108, 101, 102, 116])), (mC (.str [114, 105, 103, 104, 116]))])) b_law_0) [7]))) [5, 6, 7])
abbrev b_law_2 : MS := (sDrop (sSeq (sSet 11 (mCall Z_relative_levels [] [] [(mOp2 addD (mOp2 addD (mVar 8) (mVar 9)) (mVar 10)), (mVar 7)]))
  (sIf (mTB (mOp2 neD (mVar 11) (mBi tupLD [(mCall Z__law_relative [] [] [(mOp2 addD (mOp2 addD (mVar 8) (mVar 9)) (mVar 10)), (mOp2 eqD (mVar 7) (mC (.str [114, 105, 103, 104, 116])))])]))) (sRet (mC (.bl false))) sPass)) [7, 11])
abbrev b_law_3 : MS := (sDrop (sDrop (sFor (.nm 7) (mIt itT (mTup [(mC (.str [108, 101, 102, 116])), (mC (.str [114, 105, 103, 104, 116]))])) b_law_2) [7, 11]) [7, 10, 11])
abbrev b_law_4 : MS := (sDrop (sDrop (sFor (.nm 10) (mIt itS (mVar 1)) b_law_3) [7, 10, 11]) [7, 9, 10, 11])
abbrev b_law_5 : MS := (sDrop (sSeq (sPar [3, 4] [(mCall Z__law_bag [] [] [(mVar 0), (mVar 2)]), (mC (.str []))])
  (sSeq (sDrop (sFor (.nm 5) (mIt itR1 (mC (.int 12))) b_law_1) [5, 6, 7])
  (sSeq (sSet 8 (mOp2 addD (mOp2 ixD (mVar 1) (mCall Z__law_take [.bo, .lk] [] [(mVar 3), (mC (.int 7))])) (mOp2 ixD (mVar 1) (mCall Z__law_take [.bo, .lk] [] [(mVar 3), (mC (.int 7))]))))
  (sSeq (sDrop (sFor (.nm 9) (mIt itS (mVar 1)) b_law_4) [7, 9, 10, 11])
  (sIf (mNot (mTB (mCall Z__law_refusals_right [.bo, .lk] [] [(mVar 3), (mVar 4)]))) (sRet (mC (.bl false))) sPass))))) [2, 3, 4, 5, 6, 7, 8, 9, 10, 11])
def m_law : MS := (sSeq (sSet 1 (mC (.str [76, 82, 65, 68, 83, 84, 78])))
  (sSeq (sDrop (sFor (.nm 2) (mIt itR1 (mBi max2D [(mC (.int 2)), (mBi min2D [(mC (.int 4)), (mBi lenD [(mVar 0)])])])) b_law_5) [2, 3, 4, 5, 6, 7, 8, 9, 10, 11])
  (sRet (mAndV (mOp2 eqD (mCall Z_relative_levels [] [] [(mC (.str [])), (mC (.str [108, 101, 102, 116]))]) (mTup [])) (mOp2 eqD (mCall Z_relative_levels [] [] [(mC (.str [84, 68, 84, 83, 68, 83, 84])), (mC (.str [114, 105, 103, 104, 116]))]) (mTup [(mC (.int 1)), (mC (.int 1)), (mC (.int 1)), (mC (.int 0)), (mC (.int 1)), (mC (.int 0)), (mC (.int 0))]))))))
def Z_law : Fn := runF (fun i => [0].contains i) 1 12 m_law
theorem sc_law : FnScope N_law ["_law_script"] (defScope (top 38)) := ⟨rfl, rfl, rfl, by decide +kernel, rfl, by decide +kernel, by decide +kernel⟩
theorem o_law (F : Fx w K mg) (B : Bx K mg base) : ∃ fd, FunD K "law" "law" (defArgs (top 38)) (defBody (top 38)) (defScope (top 38)) (d_law.dvs K) (d_law.kws K) (He.ga K "law") fd ∧ FO P w K mg base (tb K) 9 (He.ga K "law") fd ["_law_script"] Z_law 1 := by
  obtain ⟨fd, hf⟩ := fd_law F
  refine ⟨fd, hf, fn_F hf sc_law (fun i => [0].contains i) rfl rfl _ (fun _ _ => rfl) fun cdv A outer s H E hc hci hr hu => ?_⟩
  have cdE := code_of hf hc hci
  have tk : Takes (cxOf (L2.CX P w) P w K mg base N_law "law" (defScope (top 38)) (He.ga K "law") cdv A outer s H E) (fun cls d _ H => E cls d H) := takes_of rfl rfl rfl rfl
  have nd : N_law.Nodup := sc_law.nd
  have h52 := un52 hr
  have h9 : ∀ d v H, ¬ (tb K).ex 9 d v H := no9
  exact (sss_cons (ss_set (i := 1) rfl nd rfl (by first | exact Or.inl rfl | exact Or.inr rfl) (se_str (l := [76, 82, 65, 68, 83, 84, 78])))
  (sss_cons (ss_drop [2, 3, 4, 5, 6, 7, 8, 9, 10, 11] (ss_for (passes_of rfl) rfl (si_rng1 rfl (n_range F) (se_bi (call_max2 rfl) b_max2 rfl (n_max F) boot_max (sa_cons se_int (sa_cons (se_bi (call_min2 rfl) b_min2 rfl (n_min F) boot_min (sa_cons se_int (sa_cons (se_bi call_lenV b_len rfl (n_len F) boot_len (sa_cons (se_var (pv 0)) sa_nil)) sa_nil))) sa_nil)))) (sg_name (i := 2) rfl nd rfl (by first | exact Or.inl rfl | exact Or.inr rfl)) (sss_drop [2, 3, 4, 5, 6, 7, 8, 9, 10, 11] (sss_cons (ss_parU (i := 3) (j := 4) rfl rfl rfl nd rfl rfl (by first | exact Or.inl rfl | exact Or.inr rfl) (by first | exact Or.inl rfl | exact Or.inr rfl) (so_cons (se_fn (G__law_bag F B) hr hu tk [] (sa_cons (se_var (pv 0)) (sa_cons (se_var (pv 2)) sa_nil))) (so_cons (se_str (l := [])) so_nil)))
  (sss_cons (ss_drop [5, 6, 7] (ss_for (passes_of rfl) rfl (si_rng1 rfl (n_range F) se_int) (sg_name (i := 5) rfl nd rfl (by first | exact Or.inl rfl | exact Or.inr rfl)) (sss_drop [5, 6, 7] (sss_cons (ss_set (i := 6) rfl nd rfl (by first | exact Or.inl rfl | exact Or.inr rfl) (se_opL op_catR v_cat (se_lc (own := [("_law_k", 12)]) rfl nd (si_rng1 rfl (n_range F) (se_op op_addV v_add se_int (se_fn (G__law_take F B) hr hu tk [.bo, .lk] (sa_cons (se_var (pv 3)) (sa_cons se_int sa_nil))))) (blkOk_by (own := [("_law_k", 12)]) (N := N_law) (sc := defScope (top 38)) (by decide +kernel)) (fun _ _ _ _ _ => (sg_name (i := 12) rfl nd rfl (by first | exact Or.inl rfl | exact Or.inr rfl))) (fun _ _ _ _ _ => sts_nil) (fun _ _ _ _ _ => (se_ix ix_seq v_ix (se_var (pv 1)) (se_fn (G__law_take F B) hr hu no_takes [.bo, .lk] (sa_cons (se_var (pv 3)) (sa_cons se_int sa_nil))) (fun _ _ => rfl)))) (se_opL op_repR v_rep (se_lst (sd_cons (se_str (l := [68])) sd_nil)) (se_fn (G__law_take F B) hr hu tk [.bo, .lk] (sa_cons (se_var (pv 3)) (sa_cons se_int sa_nil))))))
  (sss_cons (ss_set (i := 4) rfl nd rfl (by first | exact Or.inl rfl | exact Or.inr rfl) (se_sm1 PySem.F.slot_str_join PySem.F.type_str_join mt_join sm_join (se_str (l := [])) (se_lc (own := [("_law_k", 12)]) rfl nd (si_rng1 rfl (n_range F) (se_fn (G__law_take F B) hr hu tk [.bo, .lk] (sa_cons (se_var (pv 3)) (sa_cons se_int sa_nil)))) (blkOk_by (own := [("_law_k", 12)]) (N := N_law) (sc := defScope (top 38)) (by decide +kernel)) (fun _ _ _ _ _ => (sg_name (i := 12) rfl nd rfl (by first | exact Or.inl rfl | exact Or.inr rfl))) (fun _ _ _ _ _ => sts_nil) (fun _ _ _ _ _ => (se_ix ix_seq v_ix (se_var (pv 6)) (se_fn (G__law_take F B) hr hu no_takes [.bo, .lk] (sa_cons (se_var (pv 3)) (sa_cons (se_bi call_lenV b_len rfl (n_len F) boot_len (sa_cons (se_var (pv 6)) sa_nil)) sa_nil))) (fun _ _ => rfl))))))
  (sss_one (ss_drop [7] (ss_for (passes_of rfl) rfl (si_tup (se_tup (sd_cons (se_str (l := [108, 101, 102, 116])) (sd_cons (se_str (l := [114, 105, 103, 104, 116])) sd_nil)))) (sg_name (i := 7) rfl nd rfl (by first | exact Or.inl rfl | exact Or.inr rfl)) (sss_drop [7] (sss_one (ss_if (sb_cmp (op_neP hr.units) v_ne (se_fn (G_relative_levels F B) hr hu tk [] (sa_cons (se_var (pv 4)) (sa_cons (se_var (pv 7)) sa_nil))) (se_ti call_tuple_of b_tupL rfl (n_tuple F) boot_tuple (sa_cons (se_fn (G__law_relative F B) hr hu tk [] (sa_cons (se_var (pv 4)) (sa_cons (se_cmp (op_eqP hr.units) v_eq (se_var (pv 7)) (se_str (l := [114, 105, 103, 104, 116])) (nomark _)) sa_nil))) sa_nil)) (nomark _)) (sss_one (ss_ret se_bl)) sss_nil)))))))))))
  (sss_cons (ss_set (i := 8) rfl nd rfl (by first | exact Or.inl rfl | exact Or.inr rfl) (se_op op_addV v_add (se_ix ix_seq v_ix (se_var (pv 1)) (se_fn (G__law_take F B) hr hu tk [.bo, .lk] (sa_cons (se_var (pv 3)) (sa_cons se_int sa_nil))) (fun _ _ => rfl)) (se_ix ix_seq v_ix (se_var (pv 1)) (se_fn (G__law_take F B) hr hu tk [.bo, .lk] (sa_cons (se_var (pv 3)) (sa_cons se_int sa_nil))) (fun _ _ => rfl))))
  (sss_cons (ss_drop [7, 9, 10, 11] (ss_for (passes_of rfl) rfl (si_str (se_var (pv 1))) (sg_name (i := 9) rfl nd rfl (by first | exact Or.inl rfl | exact Or.inr rfl)) (sss_drop [7, 9, 10, 11] (sss_one (ss_drop [7, 10, 11] (ss_for (passes_of rfl) rfl (si_str (se_var (pv 1))) (sg_name (i := 10) rfl nd rfl (by first | exact Or.inl rfl | exact Or.inr rfl)) (sss_drop [7, 10, 11] (sss_one (ss_drop [7, 11] (ss_for (passes_of rfl) rfl (si_tup (se_tup (sd_cons (se_str (l := [108, 101, 102, 116])) (sd_cons (se_str (l := [114, 105, 103, 104, 116])) sd_nil)))) (sg_name (i := 7) rfl nd rfl (by first | exact Or.inl rfl | exact Or.inr rfl)) (sss_drop [7, 11] (sss_cons (ss_set (i := 11) rfl nd rfl (by first | exact Or.inl rfl | exact Or.inr rfl) (se_fn (G_relative_levels F B) hr hu tk [] (sa_cons (se_op op_addV v_add (se_op op_addV v_add (se_var (pv 8)) (se_var (pv 9))) (se_var (pv 10))) (sa_cons (se_var (pv 7)) sa_nil))))
  (sss_one (ss_if (sb_cmp (op_neP hr.units) v_ne (se_var (pv 11)) (se_ti call_tuple_of b_tupL rfl (n_tuple F) boot_tuple (sa_cons (se_fn (G__law_relative F B) hr hu tk [] (sa_cons (se_op op_addV v_add (se_op op_addV v_add (se_var (pv 8)) (se_var (pv 9))) (se_var (pv 10))) (sa_cons (se_cmp (op_eqP hr.units) v_eq (se_var (pv 7)) (se_str (l := [114, 105, 103, 104, 116])) (nomark _)) sa_nil))) sa_nil)) (nomark _)) (sss_one (ss_ret se_bl)) sss_nil))))))))))))))
  (sss_one (ss_if (sb_not (sb_val (se_fn (G__law_refusals_right F B) hr hu tk [.bo, .lk] (sa_cons (se_var (pv 3)) (sa_cons (se_var (pv 4)) sa_nil))))) (sss_one (ss_ret se_bl)) sss_nil)))))))))
  (sss_one (ss_ret (se_and (se_cmp (op_eqP hr.units) v_eq (se_fn (G_relative_levels F B) hr hu tk [] (sa_cons (se_str (l := [])) (sa_cons (se_str (l := [108, 101, 102, 116])) sa_nil))) (se_tup sd_nil) (nomark _)) (se_one (se_cmp (op_eqP hr.units) v_eq (se_fn (G_relative_levels F B) hr hu tk [] (sa_cons (se_str (l := [84, 68, 84, 83, 68, 83, 84])) (sa_cons (se_str (l := [114, 105, 103, 104, 116])) sa_nil))) (se_tup (sd_cons se_int (sd_cons se_int (sd_cons se_int (sd_cons se_int (sd_cons se_int (sd_cons se_int (sd_cons se_int sd_nil)))))))) (nomark _))))))))
end
end F
end

section
set_option linter.all false
set_option autoImplicit false
set_option maxRecDepth 100000
set_option maxHeartbeats 1000000
/-! the module of characters: faults of texts -/
namespace F
/-- the places of signs that are not in kn -/
def idxs (kn : List Nat) : Nat → List Nat → List Nat
  | _, [] => []
  | n, c :: x => if c ∈ kn then idxs kn (n + 1) x else n :: idxs kn (n + 1) x
def unkO (kn : List Nat) (x : List Nat) : Option Nat := (idxs kn 0 x).head?
/-- the first control that opens one isolate too many -/
def overO : Nat → Nat → List Nat → Option Nat
  | _, _, [] => none
  | n, k, c :: x => if c ∈ c_BEGINS then (if k = 20 then some n else overO (n + 1) (k + 1) x) else if c = 61 then overO (n + 1) (k - 1) x else overO (n + 1) k x
def minO : Option Nat → Option Nat → Option Nat
  | none, o => o
  | o, none => o
  | some a, some b => some (min a b)
def faultO (x : List Nat) : Option Nat := minO (unkO c_KNOWN x) (overO 0 0 x)
theorem lc_unk (e0 : Option O) : ∀ (x : List Nat) (n : Nat) (acc : List F.D), lcL [2, 3] (.tp [(.nm 2), (.nm 3)]) (mTB (mOp2 ninD (mVar 3) (mC (.str c_KNOWN)))) (mVar 2) (enumF n (x.map chD)) acc [e0, none, none, none] = .ok (acc ++ (idxs c_KNOWN n x).map fun i => F.D.int (i : Nat)) [e0, none, none, none]
  | [], n, acc => by simp [enumF, lcL, idxs]
  | c :: x, n, acc => by
    have ih := lc_unk e0 x (n + 1)
    have h := nin_ch c c_KNOWN
    by_cases hc : c ∈ c_KNOWN
    · have e : lcOne [2, 3] (.tp [(.nm 2), (.nm 3)]) (mTB (mOp2 ninD (mVar 3) (mC (.str c_KNOWN)))) (mVar 2) (.tup [.int (n : Nat), chD c]) [e0, none, none, none] = some (none, [e0, none, none, none]) := by
        rw [decide_eq_true hc] at h
        simp only [lcOne, chD, runF, gdO, finR, endF, allO, sSeq, sSet, setR, sOf, leak, mNextS, andThen, mVar, mC, slot, peek, peeks, nrm, O.pk, O.frz, mIf, mTB, mTru, mAnd, mOr, mNot, mOp1, mOp2, mOl1, mOl2, mTup, mLst, mLks, mDct, mDvs, mBi, mBl, mRs, mSm0, mSm1, mSl, mSlL, mPt, mIt, mItZ, zipR, mCall, asArgs, asArg, back, ofRes, mergeO, ofO, ofOS, sIf, sRet, sRetN, sPass, sExp, sAug, sUnp, sPar, sAsg2, sSto, sBrk, sCnt, sFor, sDrop, sMatch, mtL, mOs, setAll, sPut, mItK, mMut0, mMut1, wipeE, unwipe, lcEnd, mLc, mItS, mItR, mChain, mStar, mLstD, sSlSto, mCallV, mGet2, zipS, mBad, sBad, mNotV, mAndV, mOrV, Tg.put, putAll, List.map_cons, List.map_nil, List.replicate, List.cons_append, List.nil_append, List.getElem?_cons_zero, List.getElem?_cons_succ, Option.bind_some, List.set_cons_zero, List.set_cons_succ, List.take_succ_cons, List.take_zero, List.headD_cons, List.headD_nil, List.tail_cons, List.tail_nil, Option.map_some, Option.map_none, if_true, if_false, Bool.false_eq_true, ite_true, ite_false, Bool.not_true, Bool.not_false, Bool.true_and, Bool.false_and, List.contains, List.elem, List.append_nil, List.length_cons, List.length_nil, Nat.zero_add, Nat.reduceAdd, Nat.reduceLeDiff, lim, Nat.reduceBEq, beq_self_eq_true, Bool.and_self, h]
      rw [List.map_cons, enumF, lc_eq e, ih]
      simp [idxs, hc]
    · have e : lcOne [2, 3] (.tp [(.nm 2), (.nm 3)]) (mTB (mOp2 ninD (mVar 3) (mC (.str c_KNOWN)))) (mVar 2) (.tup [.int (n : Nat), chD c]) [e0, none, none, none] = some (some (.int (n : Nat)), [e0, none, none, none]) := by
        rw [decide_eq_false hc] at h
        simp only [lcOne, chD, runF, gdO, finR, endF, allO, sSeq, sSet, setR, sOf, leak, mNextS, andThen, mVar, mC, slot, peek, peeks, nrm, O.pk, O.frz, mIf, mTB, mTru, mAnd, mOr, mNot, mOp1, mOp2, mOl1, mOl2, mTup, mLst, mLks, mDct, mDvs, mBi, mBl, mRs, mSm0, mSm1, mSl, mSlL, mPt, mIt, mItZ, zipR, mCall, asArgs, asArg, back, ofRes, mergeO, ofO, ofOS, sIf, sRet, sRetN, sPass, sExp, sAug, sUnp, sPar, sAsg2, sSto, sBrk, sCnt, sFor, sDrop, sMatch, mtL, mOs, setAll, sPut, mItK, mMut0, mMut1, wipeE, unwipe, lcEnd, mLc, mItS, mItR, mChain, mStar, mLstD, sSlSto, mCallV, mGet2, zipS, mBad, sBad, mNotV, mAndV, mOrV, Tg.put, putAll, List.map_cons, List.map_nil, List.replicate, List.cons_append, List.nil_append, List.getElem?_cons_zero, List.getElem?_cons_succ, Option.bind_some, List.set_cons_zero, List.set_cons_succ, List.take_succ_cons, List.take_zero, List.headD_cons, List.headD_nil, List.tail_cons, List.tail_nil, Option.map_some, Option.map_none, if_true, if_false, Bool.false_eq_true, ite_true, ite_false, Bool.not_true, Bool.not_false, Bool.true_and, Bool.false_and, List.contains, List.elem, List.append_nil, List.length_cons, List.length_nil, Nat.zero_add, Nat.reduceAdd, Nat.reduceLeDiff, lim, Nat.reduceBEq, beq_self_eq_true, Bool.and_self, h]
      rw [List.map_cons, enumF, lc_eq e, ih]
      simp [idxs, hc]
theorem pls_nat (l : List Nat) : pls (l.map fun i => F.D.int (i : Nat)) = true := pls_all fun d hd => by
  obtain ⟨i, _, rfl⟩ := List.mem_map.mp hd
  rfl
theorem z_unk (x : List Nat) (hn : x.length ≤ 16777216) : Z_first_unknown [.sh (.str x)] = .rt (.sh (optD (unkO c_KNOWN x))) [.sh (.str x)] := by
  have hl : ((enumF 0 (x.map chD)).length ≤ 16777216) = True := eq_true (by rw [enumF_len, List.length_map]; exact hn)
  have lw := fun e0 => lc_unk e0 x 0 []
  have i := itES_x x
  unfold unkO
  have np := ne_nil (pls_nat (idxs c_KNOWN 0 x))
  generalize enumF 0 (x.map chD) = I at *
  cases hq : idxs c_KNOWN 0 x with
  | nil =>
    rw [hq] at lw np
    simp only [List.map_nil, List.nil_append] at lw np
    simp only [Z_first_unknown, m_first_unknown, runF, gdO, finR, endF, allO, sSeq, sSet, setR, sOf, leak, mNextS, andThen, mVar, mC, slot, peek, peeks, nrm, O.pk, O.frz, mIf, mTB, mTru, mAnd, mOr, mNot, mOp1, mOp2, mOl1, mOl2, mTup, mLst, mLks, mDct, mDvs, mBi, mBl, mRs, mSm0, mSm1, mSl, mSlL, mPt, mIt, mItZ, zipR, mCall, asArgs, asArg, back, ofRes, mergeO, ofO, ofOS, sIf, sRet, sRetN, sPass, sExp, sAug, sUnp, sPar, sAsg2, sSto, sBrk, sCnt, sFor, sDrop, sMatch, mtL, mOs, setAll, sPut, mItK, mMut0, mMut1, wipeE, unwipe, lcEnd, mLc, mItS, mItR, mChain, mStar, mLstD, sSlSto, mCallV, mGet2, zipS, mBad, sBad, mNotV, mAndV, mOrV, Tg.put, putAll, List.map_cons, List.map_nil, List.replicate, List.cons_append, List.nil_append, List.getElem?_cons_zero, List.getElem?_cons_succ, Option.bind_some, List.set_cons_zero, List.set_cons_succ, List.take_succ_cons, List.take_zero, List.headD_cons, List.headD_nil, List.tail_cons, List.tail_nil, Option.map_some, Option.map_none, if_true, if_false, Bool.false_eq_true, ite_true, ite_false, Bool.not_true, Bool.not_false, Bool.true_and, Bool.false_and, List.contains, List.elem, List.append_nil, List.length_cons, List.length_nil, Nat.zero_add, Nat.reduceAdd, Nat.reduceLeDiff, lim, Nat.reduceBEq, beq_self_eq_true, Bool.and_self, i, hl, lw, np]
    rfl
  | cons a r =>
    rw [hq] at lw np
    simp only [List.map_cons, List.nil_append] at lw np
    have hx := ixD_0 (.int (a : Nat)) (r.map fun i => F.D.int (i : Nat))
    generalize (r.map fun i => F.D.int (i : Nat)) = R at *
    simp only [Z_first_unknown, m_first_unknown, runF, gdO, finR, endF, allO, sSeq, sSet, setR, sOf, leak, mNextS, andThen, mVar, mC, slot, peek, peeks, nrm, O.pk, O.frz, mIf, mTB, mTru, mAnd, mOr, mNot, mOp1, mOp2, mOl1, mOl2, mTup, mLst, mLks, mDct, mDvs, mBi, mBl, mRs, mSm0, mSm1, mSl, mSlL, mPt, mIt, mItZ, zipR, mCall, asArgs, asArg, back, ofRes, mergeO, ofO, ofOS, sIf, sRet, sRetN, sPass, sExp, sAug, sUnp, sPar, sAsg2, sSto, sBrk, sCnt, sFor, sDrop, sMatch, mtL, mOs, setAll, sPut, mItK, mMut0, mMut1, wipeE, unwipe, lcEnd, mLc, mItS, mItR, mChain, mStar, mLstD, sSlSto, mCallV, mGet2, zipS, mBad, sBad, mNotV, mAndV, mOrV, Tg.put, putAll, List.map_cons, List.map_nil, List.replicate, List.cons_append, List.nil_append, List.getElem?_cons_zero, List.getElem?_cons_succ, Option.bind_some, List.set_cons_zero, List.set_cons_succ, List.take_succ_cons, List.take_zero, List.headD_cons, List.headD_nil, List.tail_cons, List.tail_nil, Option.map_some, Option.map_none, if_true, if_false, Bool.false_eq_true, ite_true, ite_false, Bool.not_true, Bool.not_false, Bool.true_and, Bool.false_and, List.contains, List.elem, List.append_nil, List.length_cons, List.length_nil, Nat.zero_add, Nat.reduceAdd, Nat.reduceLeDiff, lim, Nat.reduceBEq, beq_self_eq_true, Bool.and_self, i, hl, lw, np, hx]
    rfl
theorem over_loop (e0 : Option O) : ∀ (x : List Nat) (n k : Nat), k ≤ 20 → match overO n k x with
    | some i => ∃ o2 o3 o4, forL (.tp [(.nm 3), (.nm 4)]) b_overfull_0 (enumF n (x.map chD)) [e0, some (.sh (.int 20)), some (.sh (.int (k : Nat))), none, none] = .rt (.sh (.int (i : Nat))) [e0, some (.sh (.int 20)), o2, o3, o4]
    | none => ∃ k' : Nat, forL (.tp [(.nm 3), (.nm 4)]) b_overfull_0 (enumF n (x.map chD)) [e0, some (.sh (.int 20)), some (.sh (.int (k : Nat))), none, none] = .nx [e0, some (.sh (.int 20)), some (.sh (.int (k' : Nat))), none, none]
  | [], n, k, hk => ⟨k, rfl⟩
  | c :: x, n, k, hk => by
    have h1 := in_ch c c_BEGINS
    unfold overO
    rw [List.map_cons, enumF]
    have pt : (Tg.tp [(.nm 3), (.nm 4)]).put (.tup [.int (n : Nat), chD c]) [e0, some (.sh (.int 20)), some (.sh (.int (k : Nat))), none, none] = some [e0, some (.sh (.int 20)), some (.sh (.int (k : Nat))), some (.sh (.int (n : Nat))), some (.sh (chD c))] := rfl
    by_cases hc : c ∈ c_BEGINS
    · rw [decide_eq_true hc] at h1
      rw [if_pos hc]
      by_cases h20 : k = 20
      · subst h20
        rw [if_pos rfl]
        have q : eqD (.int ((20 : Nat) : Int)) (.int 20) = some (.bl true) := rfl
        refine ⟨some (.sh (.int ((20 : Nat) : Int))), some (.sh (.int (n : Nat))), some (.sh (chD c)), for_consR pt ?_⟩
        generalize ((20 : Nat) : Int) = k0 at *
        generalize (n : Int) = n0 at *
        simp only [b_overfull_0, chD, runF, gdO, finR, endF, allO, sSeq, sSet, setR, sOf, leak, mNextS, andThen, mVar, mC, slot, peek, peeks, nrm, O.pk, O.frz, mIf, mTB, mTru, mAnd, mOr, mNot, mOp1, mOp2, mOl1, mOl2, mTup, mLst, mLks, mDct, mDvs, mBi, mBl, mRs, mSm0, mSm1, mSl, mSlL, mPt, mIt, mItZ, zipR, mCall, asArgs, asArg, back, ofRes, mergeO, ofO, ofOS, sIf, sRet, sRetN, sPass, sExp, sAug, sUnp, sPar, sAsg2, sSto, sBrk, sCnt, sFor, sDrop, sMatch, mtL, mOs, setAll, sPut, mItK, mMut0, mMut1, wipeE, unwipe, lcEnd, mLc, mItS, mItR, mChain, mStar, mLstD, sSlSto, mCallV, mGet2, zipS, mBad, sBad, mNotV, mAndV, mOrV, Tg.put, putAll, List.map_cons, List.map_nil, List.replicate, List.cons_append, List.nil_append, List.getElem?_cons_zero, List.getElem?_cons_succ, Option.bind_some, List.set_cons_zero, List.set_cons_succ, List.take_succ_cons, List.take_zero, List.headD_cons, List.headD_nil, List.tail_cons, List.tail_nil, Option.map_some, Option.map_none, if_true, if_false, Bool.false_eq_true, ite_true, ite_false, Bool.not_true, Bool.not_false, Bool.true_and, Bool.false_and, List.contains, List.elem, List.append_nil, List.length_cons, List.length_nil, Nat.zero_add, Nat.reduceAdd, Nat.reduceLeDiff, lim, Nat.reduceBEq, beq_self_eq_true, Bool.and_self, h1, q]
      · rw [if_neg h20]
        have q : eqD (.int (k : Int)) (.int 20) = some (.bl false) := by
          rw [eq_int]
          have : ((k : Int) == 20) = false := by
            rw [beq_eq_false_iff_ne]
            omega
          rw [this]
        have a := addI_int (k : Int) 1
        have bd : b_overfull_0 [e0, some (.sh (.int 20)), some (.sh (.int (k : Nat))), some (.sh (.int (n : Nat))), some (.sh (chD c))] = .nx [e0, some (.sh (.int 20)), some (.sh (.int ((k + 1 : Nat) : Int))), none, none] := by
          have e : ((k + 1 : Nat) : Int) = (k : Int) + 1 := by omega
          rw [e]
          generalize (k : Int) = k0 at *
          generalize (n : Int) = n0 at *
          simp only [b_overfull_0, chD, runF, gdO, finR, endF, allO, sSeq, sSet, setR, sOf, leak, mNextS, andThen, mVar, mC, slot, peek, peeks, nrm, O.pk, O.frz, mIf, mTB, mTru, mAnd, mOr, mNot, mOp1, mOp2, mOl1, mOl2, mTup, mLst, mLks, mDct, mDvs, mBi, mBl, mRs, mSm0, mSm1, mSl, mSlL, mPt, mIt, mItZ, zipR, mCall, asArgs, asArg, back, ofRes, mergeO, ofO, ofOS, sIf, sRet, sRetN, sPass, sExp, sAug, sUnp, sPar, sAsg2, sSto, sBrk, sCnt, sFor, sDrop, sMatch, mtL, mOs, setAll, sPut, mItK, mMut0, mMut1, wipeE, unwipe, lcEnd, mLc, mItS, mItR, mChain, mStar, mLstD, sSlSto, mCallV, mGet2, zipS, mBad, sBad, mNotV, mAndV, mOrV, Tg.put, putAll, List.map_cons, List.map_nil, List.replicate, List.cons_append, List.nil_append, List.getElem?_cons_zero, List.getElem?_cons_succ, Option.bind_some, List.set_cons_zero, List.set_cons_succ, List.take_succ_cons, List.take_zero, List.headD_cons, List.headD_nil, List.tail_cons, List.tail_nil, Option.map_some, Option.map_none, if_true, if_false, Bool.false_eq_true, ite_true, ite_false, Bool.not_true, Bool.not_false, Bool.true_and, Bool.false_and, List.contains, List.elem, List.append_nil, List.length_cons, List.length_nil, Nat.zero_add, Nat.reduceAdd, Nat.reduceLeDiff, lim, Nat.reduceBEq, beq_self_eq_true, Bool.and_self, h1, q, a]
        rw [for_cons pt bd]
        exact over_loop e0 x (n + 1) (k + 1) (by omega)
    · rw [decide_eq_false hc] at h1
      rw [if_neg hc]
      by_cases he : c = 61
      · subst he
        rw [if_pos rfl]
        have q : eqD (.str [61]) (.str c_END) = some (.bl true) := rfl
        have a := sub_int (k : Int) 1
        have m := max_int 0 ((k : Int) - 1)
        have bd : b_overfull_0 [e0, some (.sh (.int 20)), some (.sh (.int (k : Nat))), some (.sh (.int (n : Nat))), some (.sh (chD 61))] = .nx [e0, some (.sh (.int 20)), some (.sh (.int ((k - 1 : Nat) : Int))), none, none] := by
          have e : ((k - 1 : Nat) : Int) = if (k : Int) - 1 > 0 then (k : Int) - 1 else 0 := by split <;> omega
          rw [e]
          generalize (if (k : Int) - 1 > 0 then (k : Int) - 1 else 0) = k1 at *
          generalize (k : Int) - 1 = k2 at *
          generalize (k : Int) = k0 at *
          generalize (n : Int) = n0 at *
          simp only [b_overfull_0, chD, runF, gdO, finR, endF, allO, sSeq, sSet, setR, sOf, leak, mNextS, andThen, mVar, mC, slot, peek, peeks, nrm, O.pk, O.frz, mIf, mTB, mTru, mAnd, mOr, mNot, mOp1, mOp2, mOl1, mOl2, mTup, mLst, mLks, mDct, mDvs, mBi, mBl, mRs, mSm0, mSm1, mSl, mSlL, mPt, mIt, mItZ, zipR, mCall, asArgs, asArg, back, ofRes, mergeO, ofO, ofOS, sIf, sRet, sRetN, sPass, sExp, sAug, sUnp, sPar, sAsg2, sSto, sBrk, sCnt, sFor, sDrop, sMatch, mtL, mOs, setAll, sPut, mItK, mMut0, mMut1, wipeE, unwipe, lcEnd, mLc, mItS, mItR, mChain, mStar, mLstD, sSlSto, mCallV, mGet2, zipS, mBad, sBad, mNotV, mAndV, mOrV, Tg.put, putAll, List.map_cons, List.map_nil, List.replicate, List.cons_append, List.nil_append, List.getElem?_cons_zero, List.getElem?_cons_succ, Option.bind_some, List.set_cons_zero, List.set_cons_succ, List.take_succ_cons, List.take_zero, List.headD_cons, List.headD_nil, List.tail_cons, List.tail_nil, Option.map_some, Option.map_none, if_true, if_false, Bool.false_eq_true, ite_true, ite_false, Bool.not_true, Bool.not_false, Bool.true_and, Bool.false_and, List.contains, List.elem, List.append_nil, List.length_cons, List.length_nil, Nat.zero_add, Nat.reduceAdd, Nat.reduceLeDiff, lim, Nat.reduceBEq, beq_self_eq_true, Bool.and_self, h1, q, a, m]
        rw [for_cons pt bd]
        exact over_loop e0 x (n + 1) (k - 1) (by omega)
      · rw [if_neg he]
        have q : eqD (.str [c]) (.str c_END) = some (.bl false) := by
          rw [eq_strs]
          have : (([c] : List Nat) == c_END) = false := by
            rw [beq_eq_false_iff_ne]
            exact fun z => he (by simpa [c_END] using z)
          rw [this]
        have bd : b_overfull_0 [e0, some (.sh (.int 20)), some (.sh (.int (k : Nat))), some (.sh (.int (n : Nat))), some (.sh (chD c))] = .nx [e0, some (.sh (.int 20)), some (.sh (.int (k : Nat))), none, none] := by
          generalize (k : Int) = k0 at *
          generalize (n : Int) = n0 at *
          simp only [b_overfull_0, chD, runF, gdO, finR, endF, allO, sSeq, sSet, setR, sOf, leak, mNextS, andThen, mVar, mC, slot, peek, peeks, nrm, O.pk, O.frz, mIf, mTB, mTru, mAnd, mOr, mNot, mOp1, mOp2, mOl1, mOl2, mTup, mLst, mLks, mDct, mDvs, mBi, mBl, mRs, mSm0, mSm1, mSl, mSlL, mPt, mIt, mItZ, zipR, mCall, asArgs, asArg, back, ofRes, mergeO, ofO, ofOS, sIf, sRet, sRetN, sPass, sExp, sAug, sUnp, sPar, sAsg2, sSto, sBrk, sCnt, sFor, sDrop, sMatch, mtL, mOs, setAll, sPut, mItK, mMut0, mMut1, wipeE, unwipe, lcEnd, mLc, mItS, mItR, mChain, mStar, mLstD, sSlSto, mCallV, mGet2, zipS, mBad, sBad, mNotV, mAndV, mOrV, Tg.put, putAll, List.map_cons, List.map_nil, List.replicate, List.cons_append, List.nil_append, List.getElem?_cons_zero, List.getElem?_cons_succ, Option.bind_some, List.set_cons_zero, List.set_cons_succ, List.take_succ_cons, List.take_zero, List.headD_cons, List.headD_nil, List.tail_cons, List.tail_nil, Option.map_some, Option.map_none, if_true, if_false, Bool.false_eq_true, ite_true, ite_false, Bool.not_true, Bool.not_false, Bool.true_and, Bool.false_and, List.contains, List.elem, List.append_nil, List.length_cons, List.length_nil, Nat.zero_add, Nat.reduceAdd, Nat.reduceLeDiff, lim, Nat.reduceBEq, beq_self_eq_true, Bool.and_self, h1, q]
        rw [for_cons pt bd]
        exact over_loop e0 x (n + 1) k hk
theorem z_over (x : List Nat) : Z_overfull [.sh (.str x), .sh (.int 20)] = .rt (.sh (optD (overO 0 0 x))) [.sh (.str x), .sh (.int 20)] := by
  have lw := over_loop (some (.sh (.str x))) x 0 0 (by decide)
  have i := itES_x x
  generalize enumF 0 (x.map chD) = I at *
  have z0 : ((0 : Nat) : Int) = 0 := rfl
  rw [z0] at lw
  cases hq : overO 0 0 x with
  | none =>
    rw [hq] at lw
    obtain ⟨k', lw⟩ := lw
    simp only [Z_overfull, m_overfull, runF, gdO, finR, endF, allO, sSeq, sSet, setR, sOf, leak, mNextS, andThen, mVar, mC, slot, peek, peeks, nrm, O.pk, O.frz, mIf, mTB, mTru, mAnd, mOr, mNot, mOp1, mOp2, mOl1, mOl2, mTup, mLst, mLks, mDct, mDvs, mBi, mBl, mRs, mSm0, mSm1, mSl, mSlL, mPt, mIt, mItZ, zipR, mCall, asArgs, asArg, back, ofRes, mergeO, ofO, ofOS, sIf, sRet, sRetN, sPass, sExp, sAug, sUnp, sPar, sAsg2, sSto, sBrk, sCnt, sFor, sDrop, sMatch, mtL, mOs, setAll, sPut, mItK, mMut0, mMut1, wipeE, unwipe, lcEnd, mLc, mItS, mItR, mChain, mStar, mLstD, sSlSto, mCallV, mGet2, zipS, mBad, sBad, mNotV, mAndV, mOrV, Tg.put, putAll, List.map_cons, List.map_nil, List.replicate, List.cons_append, List.nil_append, List.getElem?_cons_zero, List.getElem?_cons_succ, Option.bind_some, List.set_cons_zero, List.set_cons_succ, List.take_succ_cons, List.take_zero, List.headD_cons, List.headD_nil, List.tail_cons, List.tail_nil, Option.map_some, Option.map_none, if_true, if_false, Bool.false_eq_true, ite_true, ite_false, Bool.not_true, Bool.not_false, Bool.true_and, Bool.false_and, List.contains, List.elem, List.append_nil, List.length_cons, List.length_nil, Nat.zero_add, Nat.reduceAdd, Nat.reduceLeDiff, lim, Nat.reduceBEq, beq_self_eq_true, Bool.and_self, i, lw]
    rfl
  | some a =>
    rw [hq] at lw
    obtain ⟨o2, o3, o4, lw⟩ := lw
    simp only [Z_overfull, m_overfull, runF, gdO, finR, endF, allO, sSeq, sSet, setR, sOf, leak, mNextS, andThen, mVar, mC, slot, peek, peeks, nrm, O.pk, O.frz, mIf, mTB, mTru, mAnd, mOr, mNot, mOp1, mOp2, mOl1, mOl2, mTup, mLst, mLks, mDct, mDvs, mBi, mBl, mRs, mSm0, mSm1, mSl, mSlL, mPt, mIt, mItZ, zipR, mCall, asArgs, asArg, back, ofRes, mergeO, ofO, ofOS, sIf, sRet, sRetN, sPass, sExp, sAug, sUnp, sPar, sAsg2, sSto, sBrk, sCnt, sFor, sDrop, sMatch, mtL, mOs, setAll, sPut, mItK, mMut0, mMut1, wipeE, unwipe, lcEnd, mLc, mItS, mItR, mChain, mStar, mLstD, sSlSto, mCallV, mGet2, zipS, mBad, sBad, mNotV, mAndV, mOrV, Tg.put, putAll, List.map_cons, List.map_nil, List.replicate, List.cons_append, List.nil_append, List.getElem?_cons_zero, List.getElem?_cons_succ, Option.bind_some, List.set_cons_zero, List.set_cons_succ, List.take_succ_cons, List.take_zero, List.headD_cons, List.headD_nil, List.tail_cons, List.tail_nil, Option.map_some, Option.map_none, if_true, if_false, Bool.false_eq_true, ite_true, ite_false, Bool.not_true, Bool.not_false, Bool.true_and, Bool.false_and, List.contains, List.elem, List.append_nil, List.length_cons, List.length_nil, Nat.zero_add, Nat.reduceAdd, Nat.reduceLeDiff, lim, Nat.reduceBEq, beq_self_eq_true, Bool.and_self, i, lw]
    rfl
theorem z_fault (x : List Nat) (hn : x.length ≤ 16777216) : Z_first_fault [.sh (.str x)] = .rt (.sh (optD (faultO x))) [.sh (.str x)] := by
  have z1 := z_unk x hn
  have z2 := z_over x
  unfold faultO
  cases h1 : unkO c_KNOWN x with
  | none =>
    rw [h1] at z1
    cases h2 : overO 0 0 x with
    | none =>
      rw [h2] at z2
      simp only [Z_first_fault, m_first_fault, runF, gdO, finR, endF, allO, sSeq, sSet, setR, sOf, leak, mNextS, andThen, mVar, mC, slot, peek, peeks, nrm, O.pk, O.frz, mIf, mTB, mTru, mAnd, mOr, mNot, mOp1, mOp2, mOl1, mOl2, mTup, mLst, mLks, mDct, mDvs, mBi, mBl, mRs, mSm0, mSm1, mSl, mSlL, mPt, mIt, mItZ, zipR, mCall, asArgs, asArg, back, ofRes, mergeO, ofO, ofOS, sIf, sRet, sRetN, sPass, sExp, sAug, sUnp, sPar, sAsg2, sSto, sBrk, sCnt, sFor, sDrop, sMatch, mtL, mOs, setAll, sPut, mItK, mMut0, mMut1, wipeE, unwipe, lcEnd, mLc, mItS, mItR, mChain, mStar, mLstD, sSlSto, mCallV, mGet2, zipS, mBad, sBad, mNotV, mAndV, mOrV, Tg.put, putAll, List.map_cons, List.map_nil, List.replicate, List.cons_append, List.nil_append, List.getElem?_cons_zero, List.getElem?_cons_succ, Option.bind_some, List.set_cons_zero, List.set_cons_succ, List.take_succ_cons, List.take_zero, List.headD_cons, List.headD_nil, List.tail_cons, List.tail_nil, Option.map_some, Option.map_none, if_true, if_false, Bool.false_eq_true, ite_true, ite_false, Bool.not_true, Bool.not_false, Bool.true_and, Bool.false_and, List.contains, List.elem, List.append_nil, List.length_cons, List.length_nil, Nat.zero_add, Nat.reduceAdd, Nat.reduceLeDiff, lim, Nat.reduceBEq, beq_self_eq_true, Bool.and_self, z1, z2]
      rfl
    | some b =>
      rw [h2] at z2
      simp only [optD] at z1 z2
      generalize hb : (b : Int) = b0 at *
      simp only [Z_first_fault, m_first_fault, runF, gdO, finR, endF, allO, sSeq, sSet, setR, sOf, leak, mNextS, andThen, mVar, mC, slot, peek, peeks, nrm, O.pk, O.frz, mIf, mTB, mTru, mAnd, mOr, mNot, mOp1, mOp2, mOl1, mOl2, mTup, mLst, mLks, mDct, mDvs, mBi, mBl, mRs, mSm0, mSm1, mSl, mSlL, mPt, mIt, mItZ, zipR, mCall, asArgs, asArg, back, ofRes, mergeO, ofO, ofOS, sIf, sRet, sRetN, sPass, sExp, sAug, sUnp, sPar, sAsg2, sSto, sBrk, sCnt, sFor, sDrop, sMatch, mtL, mOs, setAll, sPut, mItK, mMut0, mMut1, wipeE, unwipe, lcEnd, mLc, mItS, mItR, mChain, mStar, mLstD, sSlSto, mCallV, mGet2, zipS, mBad, sBad, mNotV, mAndV, mOrV, Tg.put, putAll, List.map_cons, List.map_nil, List.replicate, List.cons_append, List.nil_append, List.getElem?_cons_zero, List.getElem?_cons_succ, Option.bind_some, List.set_cons_zero, List.set_cons_succ, List.take_succ_cons, List.take_zero, List.headD_cons, List.headD_nil, List.tail_cons, List.tail_nil, Option.map_some, Option.map_none, if_true, if_false, Bool.false_eq_true, ite_true, ite_false, Bool.not_true, Bool.not_false, Bool.true_and, Bool.false_and, List.contains, List.elem, List.append_nil, List.length_cons, List.length_nil, Nat.zero_add, Nat.reduceAdd, Nat.reduceLeDiff, lim, Nat.reduceBEq, beq_self_eq_true, Bool.and_self, z1, z2]
      subst hb
      rfl
  | some a =>
    rw [h1] at z1
    cases h2 : overO 0 0 x with
    | none =>
      rw [h2] at z2
      simp only [optD] at z1 z2
      generalize hb : (a : Int) = b0 at *
      simp only [Z_first_fault, m_first_fault, runF, gdO, finR, endF, allO, sSeq, sSet, setR, sOf, leak, mNextS, andThen, mVar, mC, slot, peek, peeks, nrm, O.pk, O.frz, mIf, mTB, mTru, mAnd, mOr, mNot, mOp1, mOp2, mOl1, mOl2, mTup, mLst, mLks, mDct, mDvs, mBi, mBl, mRs, mSm0, mSm1, mSl, mSlL, mPt, mIt, mItZ, zipR, mCall, asArgs, asArg, back, ofRes, mergeO, ofO, ofOS, sIf, sRet, sRetN, sPass, sExp, sAug, sUnp, sPar, sAsg2, sSto, sBrk, sCnt, sFor, sDrop, sMatch, mtL, mOs, setAll, sPut, mItK, mMut0, mMut1, wipeE, unwipe, lcEnd, mLc, mItS, mItR, mChain, mStar, mLstD, sSlSto, mCallV, mGet2, zipS, mBad, sBad, mNotV, mAndV, mOrV, Tg.put, putAll, List.map_cons, List.map_nil, List.replicate, List.cons_append, List.nil_append, List.getElem?_cons_zero, List.getElem?_cons_succ, Option.bind_some, List.set_cons_zero, List.set_cons_succ, List.take_succ_cons, List.take_zero, List.headD_cons, List.headD_nil, List.tail_cons, List.tail_nil, Option.map_some, Option.map_none, if_true, if_false, Bool.false_eq_true, ite_true, ite_false, Bool.not_true, Bool.not_false, Bool.true_and, Bool.false_and, List.contains, List.elem, List.append_nil, List.length_cons, List.length_nil, Nat.zero_add, Nat.reduceAdd, Nat.reduceLeDiff, lim, Nat.reduceBEq, beq_self_eq_true, Bool.and_self, z1, z2]
      subst hb
      rfl
    | some b =>
      rw [h2] at z2
      simp only [optD] at z1 z2
      have em : ((min a b : Nat) : Int) = if (a : Int) ≤ (b : Int) then (a : Int) else (b : Int) := by
        rw [Nat.min_def]
        split <;> split <;> omega
      simp only [minO, optD, em]
      generalize (a : Int) = a0 at *
      generalize (b : Int) = b0 at *
      simp only [Z_first_fault, m_first_fault, runF, gdO, finR, endF, allO, sSeq, sSet, setR, sOf, leak, mNextS, andThen, mVar, mC, slot, peek, peeks, nrm, O.pk, O.frz, mIf, mTB, mTru, mAnd, mOr, mNot, mOp1, mOp2, mOl1, mOl2, mTup, mLst, mLks, mDct, mDvs, mBi, mBl, mRs, mSm0, mSm1, mSl, mSlL, mPt, mIt, mItZ, zipR, mCall, asArgs, asArg, back, ofRes, mergeO, ofO, ofOS, sIf, sRet, sRetN, sPass, sExp, sAug, sUnp, sPar, sAsg2, sSto, sBrk, sCnt, sFor, sDrop, sMatch, mtL, mOs, setAll, sPut, mItK, mMut0, mMut1, wipeE, unwipe, lcEnd, mLc, mItS, mItR, mChain, mStar, mLstD, sSlSto, mCallV, mGet2, zipS, mBad, sBad, mNotV, mAndV, mOrV, Tg.put, putAll, List.map_cons, List.map_nil, List.replicate, List.cons_append, List.nil_append, List.getElem?_cons_zero, List.getElem?_cons_succ, Option.bind_some, List.set_cons_zero, List.set_cons_succ, List.take_succ_cons, List.take_zero, List.headD_cons, List.headD_nil, List.tail_cons, List.tail_nil, Option.map_some, Option.map_none, if_true, if_false, Bool.false_eq_true, ite_true, ite_false, Bool.not_true, Bool.not_false, Bool.true_and, Bool.false_and, List.contains, List.elem, List.append_nil, List.length_cons, List.length_nil, Nat.zero_add, Nat.reduceAdd, Nat.reduceLeDiff, lim, Nat.reduceBEq, beq_self_eq_true, Bool.and_self, z1, z2]
      rfl
end F
end

section
set_option linter.all false
set_option autoImplicit false
set_option maxRecDepth 100000
set_option maxHeartbeats 1000000
/-! levels of the parts of a content: the program's steps -/
namespace F
theorem app_ok (l : List F.D) (d : F.D) (h : l.length < 1000000) : appF l d = some (.non, l ++ [d]) := if_pos (Nat.lt_trans h (by decide))
inductive Kd where
  | c (k : Nat) | pl | ea
  deriving DecidableEq
def encP : Kd → F.D
  | .c k => chD k
  | .pl => .str c_PLAIN
  | .ea => .str c_EASTERN
def gx (x : List Nat) (i : Nat) : Nat := x.getD i 0
def lastS (x : List Nat) : Nat → Option Nat
  | 0 => none
  | i + 1 => if gx x i ∈ c_STRONG then some (gx x i) else lastS x i
def optC : Option Nat → F.D
  | none => .non
  | some c => chD c
def bfD (x : List Nat) (i : Nat) : F.D := optC (lastS x i)
def k0 (x : List Nat) (i : Nat) : Kd := if gx x i = 68 then (if lastS x i = some 65 then .ea else .pl) else .c (gx x i)
def sj (x : List Nat) (i : Nat) : Bool := decide (gx x i = 83 ∧ 1 ≤ i ∧ i + 1 < x.length ∧ gx x (i - 1) = 68 ∧ gx x (i + 1) = 68)
def k1 (x : List Nat) (i : Nat) : Kd := if sj x i = true then k0 x (i - 1) else k0 x i
theorem sb_loop (x : List Nat) (hn : x.length ≤ 1000) : forL (.nm 3) b_strong_before_0 (x.map chD) [some (.sh (.str x)), some (.fl []), some (.sh .non), none] = .nx [some (.sh (.str x)), some (.fl (tab x.length (bfD x))), some (.sh (bfD x x.length)), none] := by
  rw [str_tab]
  refine for_rng (enc := fun i => chD (gx x i)) (g := fun i => [some (.sh (.str x)), some (.fl (tab i (bfD x))), some (.sh (bfD x i)), none]) fun i hi => ?_
  refine ⟨_, rfl, ?_⟩
  have h1 := in_ch (gx x i) c_STRONG
  have ap := app_ok (tab i (bfD x)) (bfD x i) (by rw [tab_len]; omega)
  rw [← tab_succ] at ap
  have e : bfD x (i + 1) = if gx x i ∈ c_STRONG then chD (gx x i) else bfD x i := by
    show optC (if gx x i ∈ c_STRONG then some (gx x i) else lastS x i) = _
    split <;> rfl
  rw [e]
  generalize tab (i + 1) (bfD x) = T1 at *
  generalize tab i (bfD x) = T0 at *
  generalize bfD x i = B0 at *
  by_cases hc : gx x i ∈ c_STRONG
  · rw [decide_eq_true hc] at h1
    rw [if_pos hc]
    generalize gx x i = k at *
    simp only [b_strong_before_0, chD, runF, gdO, finR, endF, allO, sSeq, sSet, setR, sOf, leak, mNextS, andThen, mVar, mC, slot, peek, peeks, nrm, O.pk, O.frz, mIf, mTB, mTru, mAnd, mOr, mNot, mOp1, mOp2, mOl1, mOl2, mTup, mLst, mLks, mDct, mDvs, mBi, mBl, mRs, mSm0, mSm1, mSl, mSlL, mPt, mIt, mItZ, zipR, mCall, asArgs, asArg, back, ofRes, mergeO, ofO, ofOS, sIf, sRet, sRetN, sPass, sExp, sAug, sUnp, sPar, sAsg2, sSto, sBrk, sCnt, sFor, sDrop, sMatch, mtL, mOs, setAll, sPut, mItK, mMut0, mMut1, wipeE, unwipe, lcEnd, mLc, mItS, mItR, mChain, mStar, mLstD, sSlSto, mCallV, mGet2, zipS, mBad, sBad, mNotV, mAndV, mOrV, Tg.put, putAll, List.map_cons, List.map_nil, List.replicate, List.cons_append, List.nil_append, List.getElem?_cons_zero, List.getElem?_cons_succ, Option.bind_some, List.set_cons_zero, List.set_cons_succ, List.take_succ_cons, List.take_zero, List.headD_cons, List.headD_nil, List.tail_cons, List.tail_nil, Option.map_some, Option.map_none, if_true, if_false, Bool.false_eq_true, ite_true, ite_false, Bool.not_true, Bool.not_false, Bool.true_and, Bool.false_and, List.contains, List.elem, List.append_nil, List.length_cons, List.length_nil, Nat.zero_add, Nat.reduceAdd, Nat.reduceLeDiff, lim, Nat.reduceBEq, beq_self_eq_true, Bool.and_self, h1, ap]
  · rw [decide_eq_false hc] at h1
    rw [if_neg hc]
    generalize gx x i = k at *
    simp only [b_strong_before_0, chD, runF, gdO, finR, endF, allO, sSeq, sSet, setR, sOf, leak, mNextS, andThen, mVar, mC, slot, peek, peeks, nrm, O.pk, O.frz, mIf, mTB, mTru, mAnd, mOr, mNot, mOp1, mOp2, mOl1, mOl2, mTup, mLst, mLks, mDct, mDvs, mBi, mBl, mRs, mSm0, mSm1, mSl, mSlL, mPt, mIt, mItZ, zipR, mCall, asArgs, asArg, back, ofRes, mergeO, ofO, ofOS, sIf, sRet, sRetN, sPass, sExp, sAug, sUnp, sPar, sAsg2, sSto, sBrk, sCnt, sFor, sDrop, sMatch, mtL, mOs, setAll, sPut, mItK, mMut0, mMut1, wipeE, unwipe, lcEnd, mLc, mItS, mItR, mChain, mStar, mLstD, sSlSto, mCallV, mGet2, zipS, mBad, sBad, mNotV, mAndV, mOrV, Tg.put, putAll, List.map_cons, List.map_nil, List.replicate, List.cons_append, List.nil_append, List.getElem?_cons_zero, List.getElem?_cons_succ, Option.bind_some, List.set_cons_zero, List.set_cons_succ, List.take_succ_cons, List.take_zero, List.headD_cons, List.headD_nil, List.tail_cons, List.tail_nil, Option.map_some, Option.map_none, if_true, if_false, Bool.false_eq_true, ite_true, ite_false, Bool.not_true, Bool.not_false, Bool.true_and, Bool.false_and, List.contains, List.elem, List.append_nil, List.length_cons, List.length_nil, Nat.zero_add, Nat.reduceAdd, Nat.reduceLeDiff, lim, Nat.reduceBEq, beq_self_eq_true, Bool.and_self, h1, ap]
theorem z_sb (x : List Nat) (hn : x.length ≤ 1000) : Z_strong_before [.sh (.str x)] = .rt (.fl (tab x.length (bfD x))) [.sh (.str x)] := by
  have l := sb_loop x hn
  have i := itS_x x
  generalize tab x.length (bfD x) = T at *
  generalize bfD x x.length = B at *
  generalize x.map chD = I at *
  simp only [Z_strong_before, m_strong_before, runF, gdO, finR, endF, allO, sSeq, sSet, setR, sOf, leak, mNextS, andThen, mVar, mC, slot, peek, peeks, nrm, O.pk, O.frz, mIf, mTB, mTru, mAnd, mOr, mNot, mOp1, mOp2, mOl1, mOl2, mTup, mLst, mLks, mDct, mDvs, mBi, mBl, mRs, mSm0, mSm1, mSl, mSlL, mPt, mIt, mItZ, zipR, mCall, asArgs, asArg, back, ofRes, mergeO, ofO, ofOS, sIf, sRet, sRetN, sPass, sExp, sAug, sUnp, sPar, sAsg2, sSto, sBrk, sCnt, sFor, sDrop, sMatch, mtL, mOs, setAll, sPut, mItK, mMut0, mMut1, wipeE, unwipe, lcEnd, mLc, mItS, mItR, mChain, mStar, mLstD, sSlSto, mCallV, mGet2, zipS, mBad, sBad, mNotV, mAndV, mOrV, Tg.put, putAll, List.map_cons, List.map_nil, List.replicate, List.cons_append, List.nil_append, List.getElem?_cons_zero, List.getElem?_cons_succ, Option.bind_some, List.set_cons_zero, List.set_cons_succ, List.take_succ_cons, List.take_zero, List.headD_cons, List.headD_nil, List.tail_cons, List.tail_nil, Option.map_some, Option.map_none, if_true, if_false, Bool.false_eq_true, ite_true, ite_false, Bool.not_true, Bool.not_false, Bool.true_and, Bool.false_and, List.contains, List.elem, List.append_nil, List.length_cons, List.length_nil, Nat.zero_add, Nat.reduceAdd, Nat.reduceLeDiff, lim, Nat.reduceBEq, beq_self_eq_true, Bool.and_self, i, l]
theorem ix_x {x : List Nat} {i : Nat} (h : i < x.length) : ixD (.str x) (.int (i : Nat)) = some (chD (gx x i)) := by
  show (getI x (i : Int)).map (fun k => F.D.str [k]) = _
  unfold getI ixI
  rw [if_pos (by omega), if_pos (by omega)]
  show ((some ((i : Nat) : Int).toNat).bind fun j => x[j]?).map _ = _
  rw [Int.toNat_natCast, Option.bind_some, List.getElem?_eq_getElem h, gx, List.getD_eq_getElem?_getD, List.getElem?_eq_getElem h]
  rfl
theorem ix_xm {x : List Nat} {i : Nat} (h0 : 0 < i) (h : i ≤ x.length) : ixD (.str x) (.int ((i : Nat) - 1 : Int)) = some (chD (gx x (i - 1))) := by
  rw [show ((i : Nat) : Int) - 1 = ((i - 1 : Nat) : Int) by omega]
  exact ix_x (by omega)
theorem ix_xp {x : List Nat} {i : Nat} (h : i + 1 < x.length) : ixD (.str x) (.int ((i : Nat) + 1 : Int)) = some (chD (gx x (i + 1))) := by
  rw [show ((i : Nat) : Int) + 1 = ((i + 1 : Nat) : Int) by omega]
  exact ix_x h
theorem ixI_tab {n i : Nat} (f : Nat → F.D) (h : i < n) : ixI (tab n f).length ((i : Nat) : Int) = some i := by
  unfold ixI
  rw [if_pos (by omega), tab_len, if_pos (by omega), Int.toNat_natCast]
theorem eq_ch (a b : Nat) : eqD (chD a) (.str [b]) = some (.bl (decide (a = b))) := by
  have : eqD (chD a) (.str [b]) = some (.bl ([a] == [b])) := rfl
  rw [this]
  by_cases h : a = b
  · subst h
    simp
  · rw [decide_eq_false h]
    have : ([a] == [b]) = false := beq_eq_false_iff_ne.mpr fun z => h (by simpa using z)
    rw [this]
theorem ne_ch (a b : Nat) : neD (chD a) (.str [b]) = some (.bl (!decide (a = b))) := by
  have : neD (chD a) (.str [b]) = some (.bl (!([a] == [b]))) := rfl
  rw [this]
  by_cases h : a = b
  · subst h
    simp
  · rw [decide_eq_false h]
    have : ([a] == [b]) = false := beq_eq_false_iff_ne.mpr fun z => h (by simpa using z)
    rw [this]
theorem eq_bf (x : List Nat) (i : Nat) : eqD (bfD x i) (.str [65]) = some (.bl (decide (lastS x i = some 65))) := by
  unfold bfD
  cases lastS x i with
  | none => rfl
  | some c =>
    show eqD (chD c) _ = _
    rw [eq_ch]
    simp
def kA (E : Kd → F.D) (x : List Nat) (i j : Nat) : F.D := if j < i then E (k0 x j) else chD (gx x j)
theorem kA_up {E : Kd → F.D} (x : List Nat) {i n : Nat} (hi : i < n) {v : F.D} (hv : E (k0 x i) = v) : (tab n fun j => if j = i then v else kA E x i j) = tab n (kA E x (i + 1)) := tab_congr fun j hj => by
  unfold kA
  by_cases e : j = i
  · subst e
    rw [if_pos rfl, if_pos (by omega), hv]
  · rw [if_neg e]
    by_cases c : j < i
    · rw [if_pos c, if_pos (by omega)]
    · rw [if_neg c, if_neg (by omega)]
theorem kA_no {E : Kd → F.D} (x : List Nat) {i n : Nat} (hi : i < n) (hv : E (k0 x i) = chD (gx x i)) : tab n (kA E x i) = tab n (kA E x (i + 1)) := tab_congr fun j hj => by
  unfold kA
  by_cases e : j = i
  · subst e
    rw [if_neg (by omega), if_pos (by omega), hv]
  · by_cases c : j < i
    · rw [if_pos c, if_pos (by omega)]
    · rw [if_neg c, if_neg (by omega)]
theorem k0_A {x : List Nat} {i : Nat} (h : gx x i = 68) (h2 : lastS x i = some 65) : k0 x i = .ea := by unfold k0; rw [if_pos h, if_pos h2]
theorem k0_B {x : List Nat} {i : Nat} (h : gx x i = 68) (h2 : ¬ lastS x i = some 65) : k0 x i = .pl := by unfold k0; rw [if_pos h, if_neg h2]
theorem k0_C {x : List Nat} {i : Nat} (h : ¬ gx x i = 68) : k0 x i = .c (gx x i) := by unfold k0; rw [if_neg h]
theorem dt_loop0 (x : List Nat) : forL (.tp [(.nm 3), (.nm 4)]) b_digits_told_0 ((List.range x.length).map fun i => F.D.tup [.int (i : Nat), chD (gx x i)]) [some (.sh (.str x)), some (.sh (.lst (tab x.length (bfD x)))), some (.fl (tab x.length (kA encP x 0))), none, none] =
    .nx [some (.sh (.str x)), some (.sh (.lst (tab x.length (bfD x)))), some (.fl (tab x.length (kA encP x x.length))), none, none] := by
  refine for_rng (enc := fun i => F.D.tup [.int (i : Nat), chD (gx x i)]) (g := fun i => [some (.sh (.str x)), some (.sh (.lst (tab x.length (bfD x)))), some (.fl (tab x.length (kA encP x i))), none, none]) fun i hi => ?_
  refine ⟨_, rfl, ?_⟩
  have q := eq_ch (gx x i) 68
  have b := ix_tab (bfD x) hi
  have b2 := eq_bf x i
  have ii := ixI_tab (kA encP x i) hi
  by_cases h : gx x i = 68
  · rw [decide_eq_true h] at q
    by_cases h2 : lastS x i = some 65
    · rw [decide_eq_true h2] at b2
      have st := set_tab (kA encP x i) (.str c_EASTERN) hi
      rw [kA_up x hi (show encP (k0 x i) = .str c_EASTERN by rw [k0_A h h2]; rfl)] at st
      generalize tab x.length (kA encP x (i + 1)) = T1 at *
      generalize tab x.length (kA encP x i) = T0 at *
      generalize tab x.length (bfD x) = B at *
      generalize bfD x i = B0 at *
      generalize chD (gx x i) = C at *
      generalize ((i : Nat) : Int) = I at *
      simp only [b_digits_told_0, runF, gdO, finR, endF, allO, sSeq, sSet, setR, sOf, leak, mNextS, andThen, mVar, mC, slot, peek, peeks, nrm, O.pk, O.frz, mIf, mTB, mTru, mAnd, mOr, mNot, mOp1, mOp2, mOl1, mOl2, mTup, mLst, mLks, mDct, mDvs, mBi, mBl, mRs, mSm0, mSm1, mSl, mSlL, mPt, mIt, mItZ, zipR, mCall, asArgs, asArg, back, ofRes, mergeO, ofO, ofOS, sIf, sRet, sRetN, sPass, sExp, sAug, sUnp, sPar, sAsg2, sSto, sBrk, sCnt, sFor, sDrop, sMatch, mtL, mOs, setAll, sPut, mItK, mMut0, mMut1, wipeE, unwipe, lcEnd, mLc, mItS, mItR, mChain, mStar, mLstD, sSlSto, mCallV, mGet2, zipS, mBad, sBad, mNotV, mAndV, mOrV, Tg.put, putAll, List.map_cons, List.map_nil, List.replicate, List.cons_append, List.nil_append, List.getElem?_cons_zero, List.getElem?_cons_succ, Option.bind_some, List.set_cons_zero, List.set_cons_succ, List.take_succ_cons, List.take_zero, List.headD_cons, List.headD_nil, List.tail_cons, List.tail_nil, Option.map_some, Option.map_none, if_true, if_false, Bool.false_eq_true, ite_true, ite_false, Bool.not_true, Bool.not_false, Bool.true_and, Bool.false_and, List.contains, List.elem, List.append_nil, List.length_cons, List.length_nil, Nat.zero_add, Nat.reduceAdd, Nat.reduceLeDiff, lim, Nat.reduceBEq, beq_self_eq_true, Bool.and_self, q, b, b2, ii, st]
    · rw [decide_eq_false h2] at b2
      have st := set_tab (kA encP x i) (.str c_PLAIN) hi
      rw [kA_up x hi (show encP (k0 x i) = .str c_PLAIN by rw [k0_B h h2]; rfl)] at st
      generalize tab x.length (kA encP x (i + 1)) = T1 at *
      generalize tab x.length (kA encP x i) = T0 at *
      generalize tab x.length (bfD x) = B at *
      generalize bfD x i = B0 at *
      generalize chD (gx x i) = C at *
      generalize ((i : Nat) : Int) = I at *
      simp only [b_digits_told_0, runF, gdO, finR, endF, allO, sSeq, sSet, setR, sOf, leak, mNextS, andThen, mVar, mC, slot, peek, peeks, nrm, O.pk, O.frz, mIf, mTB, mTru, mAnd, mOr, mNot, mOp1, mOp2, mOl1, mOl2, mTup, mLst, mLks, mDct, mDvs, mBi, mBl, mRs, mSm0, mSm1, mSl, mSlL, mPt, mIt, mItZ, zipR, mCall, asArgs, asArg, back, ofRes, mergeO, ofO, ofOS, sIf, sRet, sRetN, sPass, sExp, sAug, sUnp, sPar, sAsg2, sSto, sBrk, sCnt, sFor, sDrop, sMatch, mtL, mOs, setAll, sPut, mItK, mMut0, mMut1, wipeE, unwipe, lcEnd, mLc, mItS, mItR, mChain, mStar, mLstD, sSlSto, mCallV, mGet2, zipS, mBad, sBad, mNotV, mAndV, mOrV, Tg.put, putAll, List.map_cons, List.map_nil, List.replicate, List.cons_append, List.nil_append, List.getElem?_cons_zero, List.getElem?_cons_succ, Option.bind_some, List.set_cons_zero, List.set_cons_succ, List.take_succ_cons, List.take_zero, List.headD_cons, List.headD_nil, List.tail_cons, List.tail_nil, Option.map_some, Option.map_none, if_true, if_false, Bool.false_eq_true, ite_true, ite_false, Bool.not_true, Bool.not_false, Bool.true_and, Bool.false_and, List.contains, List.elem, List.append_nil, List.length_cons, List.length_nil, Nat.zero_add, Nat.reduceAdd, Nat.reduceLeDiff, lim, Nat.reduceBEq, beq_self_eq_true, Bool.and_self, q, b, b2, ii, st]
  · rw [decide_eq_false h] at q
    have e : tab x.length (kA encP x i) = tab x.length (kA encP x (i + 1)) := kA_no x hi (by rw [k0_C h]; rfl)
    rw [e]
    generalize tab x.length (kA encP x (i + 1)) = T1 at *
    generalize tab x.length (bfD x) = B at *
    generalize bfD x i = B0 at *
    generalize chD (gx x i) = C at *
    generalize ((i : Nat) : Int) = I at *
    simp only [b_digits_told_0, runF, gdO, finR, endF, allO, sSeq, sSet, setR, sOf, leak, mNextS, andThen, mVar, mC, slot, peek, peeks, nrm, O.pk, O.frz, mIf, mTB, mTru, mAnd, mOr, mNot, mOp1, mOp2, mOl1, mOl2, mTup, mLst, mLks, mDct, mDvs, mBi, mBl, mRs, mSm0, mSm1, mSl, mSlL, mPt, mIt, mItZ, zipR, mCall, asArgs, asArg, back, ofRes, mergeO, ofO, ofOS, sIf, sRet, sRetN, sPass, sExp, sAug, sUnp, sPar, sAsg2, sSto, sBrk, sCnt, sFor, sDrop, sMatch, mtL, mOs, setAll, sPut, mItK, mMut0, mMut1, wipeE, unwipe, lcEnd, mLc, mItS, mItR, mChain, mStar, mLstD, sSlSto, mCallV, mGet2, zipS, mBad, sBad, mNotV, mAndV, mOrV, Tg.put, putAll, List.map_cons, List.map_nil, List.replicate, List.cons_append, List.nil_append, List.getElem?_cons_zero, List.getElem?_cons_succ, Option.bind_some, List.set_cons_zero, List.set_cons_succ, List.take_succ_cons, List.take_zero, List.headD_cons, List.headD_nil, List.tail_cons, List.tail_nil, Option.map_some, Option.map_none, if_true, if_false, Bool.false_eq_true, ite_true, ite_false, Bool.not_true, Bool.not_false, Bool.true_and, Bool.false_and, List.contains, List.elem, List.append_nil, List.length_cons, List.length_nil, Nat.zero_add, Nat.reduceAdd, Nat.reduceLeDiff, lim, Nat.reduceBEq, beq_self_eq_true, Bool.and_self, q]
/-! signs between digits -/
def kB (E : Kd → F.D) (x : List Nat) (i j : Nat) : F.D := if j < i then E (k1 x j) else E (k0 x j)
theorem kB_at (E : Kd → F.D) (x : List Nat) {i : Nat} (h0 : 1 ≤ i) (h : gx x (i - 1) = 68) : kB E x i (i - 1) = E (k0 x (i - 1)) := by
  unfold kB
  rw [if_pos (by omega)]
  unfold k1
  rw [show sj x (i - 1) = false by unfold sj; exact decide_eq_false fun z => by rw [h] at z; omega]
  rfl
theorem kB_up {E : Kd → F.D} (x : List Nat) {i n : Nat} (hi : i < n) (hs : sj x i = true) : (tab n fun j => if j = i then E (k0 x (i - 1)) else kB E x i j) = tab n (kB E x (i + 1)) := tab_congr fun j hj => by
  unfold kB
  by_cases e : j = i
  · subst e
    rw [if_pos rfl, if_pos (by omega), k1, if_pos hs]
  · rw [if_neg e]
    by_cases c : j < i
    · rw [if_pos c, if_pos (by omega)]
    · rw [if_neg c, if_neg (by omega)]
theorem kB_no {E : Kd → F.D} (x : List Nat) {i n : Nat} (hs : sj x i = false) : tab n (kB E x i) = tab n (kB E x (i + 1)) := tab_congr fun j hj => by
  unfold kB
  by_cases e : j = i
  · subst e
    rw [if_neg (by omega), if_pos (by omega), k1, if_neg (by rw [hs]; decide)]
  · by_cases c : j < i
    · rw [if_pos c, if_pos (by omega)]
    · rw [if_neg c, if_neg (by omega)]
theorem sj_0 (x : List Nat) (i : Nat) (h : i < 1 ∨ x.length ≤ i + 1) : sj x i = false := by unfold sj; exact decide_eq_false fun z => by omega
theorem kB_first {E : Kd → F.D} (x : List Nat) : tab x.length (kA E x x.length) = tab x.length (kB E x 1) := tab_congr fun j hj => by
  unfold kA kB
  rw [if_pos hj]
  by_cases c : j < 1
  · rw [if_pos c, k1, sj_0 x j (.inl c)]
    rfl
  · rw [if_neg c]
theorem kB_last {E : Kd → F.D} (x : List Nat) : tab x.length (kB E x (1 + (x.length - 2))) = tab x.length fun j => E (k1 x j) := tab_congr fun j hj => by
  unfold kB
  by_cases c : j < 1 + (x.length - 2)
  · rw [if_pos c]
  · rw [if_neg c, k1, sj_0 x j (by omega)]
    rfl
theorem dt_loop1 (x : List Nat) (B : F.D) : forL (.nm 3) b_digits_told_1 ((List.range' 1 (x.length - 2)).map fun i => F.D.int (i : Nat)) [some (.sh (.str x)), some (.sh B), some (.fl (tab x.length (kB encP x 1))), none, none] =
    .nx [some (.sh (.str x)), some (.sh B), some (.fl (tab x.length (kB encP x (1 + (x.length - 2))))), none, none] := by
  refine for_rng2 (enc := fun i => F.D.int (i : Nat)) (g := fun i => [some (.sh (.str x)), some (.sh B), some (.fl (tab x.length (kB encP x i))), none, none]) fun i h1 h2 => ?_
  refine ⟨_, rfl, ?_⟩
  have hi : i < x.length := by omega
  have a1 := ix_x hi
  have a2 := ix_xm (x := x) (i := i) (by omega) (by omega)
  have a3 := ix_xp (x := x) (i := i) (by omega)
  have s1 := sub_int (i : Nat) 1
  have s2 := add_int (i : Nat) 1
  have q1 := eq_ch (gx x i) 83
  have q2 : eqD (chD (gx x (i - 1))) (chD (gx x (i + 1))) = _ := eq_ch (gx x (i - 1)) (gx x (i + 1))
  have q3 := eq_ch (gx x (i + 1)) 68
  have kp := ix_tabP (kB encP x i) (i := i) (n := x.length) (by omega) (by omega)
  have ii := ixI_tab (kB encP x i) hi
  by_cases c1 : gx x i = 83
  case neg =>
    rw [decide_eq_false c1] at q1
    rw [kB_no (E := encP) x (n := x.length) (show sj x i = false by unfold sj; exact decide_eq_false fun z => c1 z.1)]
    generalize tab x.length (kB encP x (i + 1)) = T1 at *
    generalize chD (gx x i) = C at *
    generalize ((i : Nat) : Int) = I at *
    simp only [b_digits_told_1, runF, gdO, finR, endF, allO, sSeq, sSet, setR, sOf, leak, mNextS, andThen, mVar, mC, slot, peek, peeks, nrm, O.pk, O.frz, mIf, mTB, mTru, mAnd, mOr, mNot, mOp1, mOp2, mOl1, mOl2, mTup, mLst, mLks, mDct, mDvs, mBi, mBl, mRs, mSm0, mSm1, mSl, mSlL, mPt, mIt, mItZ, zipR, mCall, asArgs, asArg, back, ofRes, mergeO, ofO, ofOS, sIf, sRet, sRetN, sPass, sExp, sAug, sUnp, sPar, sAsg2, sSto, sBrk, sCnt, sFor, sDrop, sMatch, mtL, mOs, setAll, sPut, mItK, mMut0, mMut1, wipeE, unwipe, lcEnd, mLc, mItS, mItR, mChain, mStar, mLstD, sSlSto, mCallV, mGet2, zipS, mBad, sBad, mNotV, mAndV, mOrV, Tg.put, putAll, List.map_cons, List.map_nil, List.replicate, List.cons_append, List.nil_append, List.getElem?_cons_zero, List.getElem?_cons_succ, Option.bind_some, List.set_cons_zero, List.set_cons_succ, List.take_succ_cons, List.take_zero, List.headD_cons, List.headD_nil, List.tail_cons, List.tail_nil, Option.map_some, Option.map_none, if_true, if_false, Bool.false_eq_true, ite_true, ite_false, Bool.not_true, Bool.not_false, Bool.true_and, Bool.false_and, List.contains, List.elem, List.append_nil, List.length_cons, List.length_nil, Nat.zero_add, Nat.reduceAdd, Nat.reduceLeDiff, lim, Nat.reduceBEq, beq_self_eq_true, Bool.and_self, a1, q1]
  rw [decide_eq_true c1] at q1
  by_cases c2 : gx x (i - 1) = gx x (i + 1)
  case neg =>
    rw [decide_eq_false c2] at q2
    rw [kB_no (E := encP) x (n := x.length) (show sj x i = false by unfold sj; exact decide_eq_false fun z => c2 (by rw [z.2.2.2.1, z.2.2.2.2]))]
    generalize tab x.length (kB encP x (i + 1)) = T1 at *
    generalize chD (gx x i) = C at *
    generalize chD (gx x (i - 1)) = C1 at *
    generalize chD (gx x (i + 1)) = C2 at *
    generalize ((i : Nat) : Int) - 1 = I1 at *
    generalize ((i : Nat) : Int) + 1 = I2 at *
    generalize ((i : Nat) : Int) = I at *
    simp only [b_digits_told_1, runF, gdO, finR, endF, allO, sSeq, sSet, setR, sOf, leak, mNextS, andThen, mVar, mC, slot, peek, peeks, nrm, O.pk, O.frz, mIf, mTB, mTru, mAnd, mOr, mNot, mOp1, mOp2, mOl1, mOl2, mTup, mLst, mLks, mDct, mDvs, mBi, mBl, mRs, mSm0, mSm1, mSl, mSlL, mPt, mIt, mItZ, zipR, mCall, asArgs, asArg, back, ofRes, mergeO, ofO, ofOS, sIf, sRet, sRetN, sPass, sExp, sAug, sUnp, sPar, sAsg2, sSto, sBrk, sCnt, sFor, sDrop, sMatch, mtL, mOs, setAll, sPut, mItK, mMut0, mMut1, wipeE, unwipe, lcEnd, mLc, mItS, mItR, mChain, mStar, mLstD, sSlSto, mCallV, mGet2, zipS, mBad, sBad, mNotV, mAndV, mOrV, Tg.put, putAll, List.map_cons, List.map_nil, List.replicate, List.cons_append, List.nil_append, List.getElem?_cons_zero, List.getElem?_cons_succ, Option.bind_some, List.set_cons_zero, List.set_cons_succ, List.take_succ_cons, List.take_zero, List.headD_cons, List.headD_nil, List.tail_cons, List.tail_nil, Option.map_some, Option.map_none, if_true, if_false, Bool.false_eq_true, ite_true, ite_false, Bool.not_true, Bool.not_false, Bool.true_and, Bool.false_and, List.contains, List.elem, List.append_nil, List.length_cons, List.length_nil, Nat.zero_add, Nat.reduceAdd, Nat.reduceLeDiff, lim, Nat.reduceBEq, beq_self_eq_true, Bool.and_self, a1, q1, a2, a3, s1, s2, q2]
  rw [decide_eq_true c2] at q2
  by_cases c3 : gx x (i + 1) = 68
  case neg =>
    rw [decide_eq_false c3] at q3
    rw [kB_no (E := encP) x (n := x.length) (show sj x i = false by unfold sj; exact decide_eq_false fun z => c3 z.2.2.2.2)]
    generalize tab x.length (kB encP x (i + 1)) = T1 at *
    generalize chD (gx x i) = C at *
    generalize chD (gx x (i - 1)) = C1 at *
    generalize chD (gx x (i + 1)) = C2 at *
    generalize ((i : Nat) : Int) - 1 = I1 at *
    generalize ((i : Nat) : Int) + 1 = I2 at *
    generalize ((i : Nat) : Int) = I at *
    simp only [b_digits_told_1, runF, gdO, finR, endF, allO, sSeq, sSet, setR, sOf, leak, mNextS, andThen, mVar, mC, slot, peek, peeks, nrm, O.pk, O.frz, mIf, mTB, mTru, mAnd, mOr, mNot, mOp1, mOp2, mOl1, mOl2, mTup, mLst, mLks, mDct, mDvs, mBi, mBl, mRs, mSm0, mSm1, mSl, mSlL, mPt, mIt, mItZ, zipR, mCall, asArgs, asArg, back, ofRes, mergeO, ofO, ofOS, sIf, sRet, sRetN, sPass, sExp, sAug, sUnp, sPar, sAsg2, sSto, sBrk, sCnt, sFor, sDrop, sMatch, mtL, mOs, setAll, sPut, mItK, mMut0, mMut1, wipeE, unwipe, lcEnd, mLc, mItS, mItR, mChain, mStar, mLstD, sSlSto, mCallV, mGet2, zipS, mBad, sBad, mNotV, mAndV, mOrV, Tg.put, putAll, List.map_cons, List.map_nil, List.replicate, List.cons_append, List.nil_append, List.getElem?_cons_zero, List.getElem?_cons_succ, Option.bind_some, List.set_cons_zero, List.set_cons_succ, List.take_succ_cons, List.take_zero, List.headD_cons, List.headD_nil, List.tail_cons, List.tail_nil, Option.map_some, Option.map_none, if_true, if_false, Bool.false_eq_true, ite_true, ite_false, Bool.not_true, Bool.not_false, Bool.true_and, Bool.false_and, List.contains, List.elem, List.append_nil, List.length_cons, List.length_nil, Nat.zero_add, Nat.reduceAdd, Nat.reduceLeDiff, lim, Nat.reduceBEq, beq_self_eq_true, Bool.and_self, a1, q1, a2, a3, s1, s2, q2, q3]
  rw [decide_eq_true c3] at q3
  rw [kB_at encP x h1 (by rw [c2, c3])] at kp
  have st := set_tab (kB encP x i) (encP (k0 x (i - 1))) hi
  rw [kB_up (E := encP) x hi (show sj x i = true by unfold sj; exact decide_eq_true ⟨c1, h1, by omega, by rw [c2, c3], c3⟩)] at st
  generalize tab x.length (kB encP x (i + 1)) = T1 at *
  generalize tab x.length (kB encP x i) = T0 at *
  generalize encP (k0 x (i - 1)) = V at *
  generalize chD (gx x i) = C at *
  generalize chD (gx x (i - 1)) = C1 at *
  generalize chD (gx x (i + 1)) = C2 at *
  generalize ((i : Nat) : Int) - 1 = I1 at *
  generalize ((i : Nat) : Int) + 1 = I2 at *
  generalize ((i : Nat) : Int) = I at *
  simp only [b_digits_told_1, runF, gdO, finR, endF, allO, sSeq, sSet, setR, sOf, leak, mNextS, andThen, mVar, mC, slot, peek, peeks, nrm, O.pk, O.frz, mIf, mTB, mTru, mAnd, mOr, mNot, mOp1, mOp2, mOl1, mOl2, mTup, mLst, mLks, mDct, mDvs, mBi, mBl, mRs, mSm0, mSm1, mSl, mSlL, mPt, mIt, mItZ, zipR, mCall, asArgs, asArg, back, ofRes, mergeO, ofO, ofOS, sIf, sRet, sRetN, sPass, sExp, sAug, sUnp, sPar, sAsg2, sSto, sBrk, sCnt, sFor, sDrop, sMatch, mtL, mOs, setAll, sPut, mItK, mMut0, mMut1, wipeE, unwipe, lcEnd, mLc, mItS, mItR, mChain, mStar, mLstD, sSlSto, mCallV, mGet2, zipS, mBad, sBad, mNotV, mAndV, mOrV, Tg.put, putAll, List.map_cons, List.map_nil, List.replicate, List.cons_append, List.nil_append, List.getElem?_cons_zero, List.getElem?_cons_succ, Option.bind_some, List.set_cons_zero, List.set_cons_succ, List.take_succ_cons, List.take_zero, List.headD_cons, List.headD_nil, List.tail_cons, List.tail_nil, Option.map_some, Option.map_none, if_true, if_false, Bool.false_eq_true, ite_true, ite_false, Bool.not_true, Bool.not_false, Bool.true_and, Bool.false_and, List.contains, List.elem, List.append_nil, List.length_cons, List.length_nil, Nat.zero_add, Nat.reduceAdd, Nat.reduceLeDiff, lim, Nat.reduceBEq, beq_self_eq_true, Bool.and_self, a1, q1, a2, a3, s1, s2, q2, q3, kp, ii, st]
theorem chsD_map : ∀ x : List Nat, chsD x = x.map chD
  | [] => rfl
  | a :: x => by
    show F.D.str [a] :: chsD x = _
    rw [chsD_map x]
    rfl
theorem listS_x (x : List Nat) : listSD [.str x] = some (x.map chD) := by
  show some (chsD x) = _
  rw [chsD_map]
theorem itR_x (x : List Nat) (h : x.length ≤ 1000) : ((-4611686018427387904 ≤ (1 : Int) ∧ (1 : Int) < 4611686018427387904) ∧ -4611686018427387904 ≤ ((x.length : Nat) : Int) - 1 ∧ ((x.length : Nat) : Int) - 1 < 4611686018427387904) = True := eq_true (by omega)
theorem rng_x (x : List Nat) : rngF 1 (((x.length : Nat) : Int) - 1 - 1).toNat = (List.range' 1 (x.length - 2)).map fun i => F.D.int (i : Nat) := by
  rw [show (((x.length : Nat) : Int) - 1 - 1).toNat = x.length - 2 by omega]
  exact rngF_r 1 _
theorem z_dt (x : List Nat) (hn : x.length ≤ 1000) : Z_digits_told [.sh (.str x), .sh (.lst (tab x.length (bfD x)))] = .rt (.fl (tab x.length fun j => encP (k1 x j))) [.sh (.str x), .sh (.lst (tab x.length (bfD x)))] := by
  have l0 := dt_loop0 x
  have l1 := dt_loop1 x (.lst (tab x.length (bfD x)))
  rw [kB_first] at l0
  rw [kB_last] at l1
  have ls := listS_x x
  have i := itES_x x
  rw [str_tab, enum_tab] at i
  have i : itES (.str x) = some ((List.range x.length).map fun i => F.D.tup [.int (i : Nat), chD (gx x i)]) := i
  have ls : listSD [.str x] = some (tab x.length (kA encP x 0)) := by rw [ls, str_tab]; rfl
  have ln := len_str x
  have sb := sub_int (x.length : Nat) 1
  have c := itR_x x hn
  have r := rng_x x
  generalize tab x.length (bfD x) = B at *
  generalize (tab x.length fun j => encP (k1 x j)) = T2 at *
  generalize tab x.length (kB encP x 1) = T1 at *
  generalize tab x.length (kA encP x 0) = T0 at *
  generalize ((List.range x.length).map fun i => F.D.tup [.int (i : Nat), chD (gx x i)]) = I0 at *
  generalize ((List.range' 1 (x.length - 2)).map fun i => F.D.int (i : Nat)) = I1 at *
  generalize ((x.length : Nat) : Int) - 1 = L1 at *
  generalize ((x.length : Nat) : Int) = L0 at *
  simp only [Z_digits_told, m_digits_told, runF, gdO, finR, endF, allO, sSeq, sSet, setR, sOf, leak, mNextS, andThen, mVar, mC, slot, peek, peeks, nrm, O.pk, O.frz, mIf, mTB, mTru, mAnd, mOr, mNot, mOp1, mOp2, mOl1, mOl2, mTup, mLst, mLks, mDct, mDvs, mBi, mBl, mRs, mSm0, mSm1, mSl, mSlL, mPt, mIt, mItZ, zipR, mCall, asArgs, asArg, back, ofRes, mergeO, ofO, ofOS, sIf, sRet, sRetN, sPass, sExp, sAug, sUnp, sPar, sAsg2, sSto, sBrk, sCnt, sFor, sDrop, sMatch, mtL, mOs, setAll, sPut, mItK, mMut0, mMut1, wipeE, unwipe, lcEnd, mLc, mItS, mItR, mChain, mStar, mLstD, sSlSto, mCallV, mGet2, zipS, mBad, sBad, mNotV, mAndV, mOrV, Tg.put, putAll, List.map_cons, List.map_nil, List.replicate, List.cons_append, List.nil_append, List.getElem?_cons_zero, List.getElem?_cons_succ, Option.bind_some, List.set_cons_zero, List.set_cons_succ, List.take_succ_cons, List.take_zero, List.headD_cons, List.headD_nil, List.tail_cons, List.tail_nil, Option.map_some, Option.map_none, if_true, if_false, Bool.false_eq_true, ite_true, ite_false, Bool.not_true, Bool.not_false, Bool.true_and, Bool.false_and, List.contains, List.elem, List.append_nil, List.length_cons, List.length_nil, Nat.zero_add, Nat.reduceAdd, Nat.reduceLeDiff, lim, Nat.reduceBEq, beq_self_eq_true, Bool.and_self, ls, i, l0, ln, sb, c, r, l1]
end F
end

section
set_option linter.all false
set_option autoImplicit false
set_option maxRecDepth 100000
set_option maxHeartbeats 1000000
/-! intervals; the rules 3 and 4 -/
namespace F
def prD (ab : Nat × Nat) : F.D := .tup [.int (ab.1 : Nat), .int (ab.2 : Nat)]
def stD (p : Nat → Bool) (i : Nat) : F.D := if opn p i = true then .int (lo p i : Nat) else .non
theorem runs_len (p : Nat → Bool) : ∀ i, (runs p i).length ≤ i
  | 0 => Nat.le_refl _
  | i + 1 => by
    have := runs_len p i
    unfold runs
    split
    · omega
    · split
      · rw [List.length_append]
        simp only [List.length_cons, List.length_nil]
        omega
      · omega
theorem runs_yes {p : Nat → Bool} {i : Nat} (h : p i = true) : runs p (i + 1) = runs p i := by
  show (if p i = true then runs p i else _) = _
  rw [if_pos h]
theorem runs_end {p : Nat → Bool} {i : Nat} (h : p i = false) (o : opn p i = true) : runs p (i + 1) = runs p i ++ [(lo p i, i)] := by
  show (if p i = true then runs p i else if opn p i = true then runs p i ++ [(lo p i, i)] else runs p i) = _
  rw [if_neg (by rw [h]; decide), if_pos o]
theorem runs_no {p : Nat → Bool} {i : Nat} (h : p i = false) (o : opn p i = false) : runs p (i + 1) = runs p i := by
  show (if p i = true then runs p i else if opn p i = true then runs p i ++ [(lo p i, i)] else runs p i) = _
  rw [if_neg (by rw [h]; decide), if_neg (by rw [o]; decide)]
theorem stD_no {p : Nat → Bool} {i : Nat} (o : opn p i = false) : stD p i = .non := by unfold stD; rw [if_neg (by rw [o]; decide)]
theorem stD_yes {p : Nat → Bool} {i : Nat} (o : opn p i = true) : stD p i = .int (lo p i : Nat) := by unfold stD; rw [if_pos o]
theorem lo_open {p : Nat → Bool} {i : Nat} (h : p i = true) (o : opn p i = false) : lo p (i + 1) = i := by
  show (if p i = true then lo p i else i + 1) = _
  rw [if_pos h]
  cases i with
  | zero => rfl
  | succ k =>
    have o : p k = false := o
    show (if p k = true then lo p k else k + 1) = _
    rw [if_neg (by rw [o]; decide)]
theorem lo_go {p : Nat → Bool} {i : Nat} (h : p i = true) : lo p (i + 1) = lo p i := by
  show (if p i = true then lo p i else i + 1) = _
  rw [if_pos h]
theorem int_loop {n k : Nat} {f : Nat → F.D} {p : Nat → Bool} (hn : n ≤ 1000) (hF : ∀ i, i < n → Fs k [.sh (f i)] = .rt (.sh (.bl (p i))) [.sh (f i)]) : forL (.tp [(.nm 4), (.nm 5)]) b_intervals_0 ((List.range n).map fun i => F.D.tup [.int (i : Nat), f i]) [some (.sh (.lst (tab n f))), some (.sh (.ex 1 (.int (k : Nat)))), some (.fl []), some (.sh .non), none, none] =
    .nx [some (.sh (.lst (tab n f))), some (.sh (.ex 1 (.int (k : Nat)))), some (.fl ((runs p n).map prD)), some (.sh (stD p n)), none, none] := by
  refine for_rng (enc := fun i => F.D.tup [.int (i : Nat), f i]) (g := fun i => [some (.sh (.lst (tab n f))), some (.sh (.ex 1 (.int (k : Nat)))), some (.fl ((runs p i).map prD)), some (.sh (stD p i)), none, none]) fun i hi => ?_
  refine ⟨_, rfl, ?_⟩
  have hF := hF i hi
  have nt : ((k : Nat) : Int).toNat = k := Int.toNat_natCast k
  generalize tab n f = T at *
  cases hp : p i with
  | true =>
    rw [hp] at hF
    rw [runs_yes hp, stD_yes (show opn p (i + 1) = true from hp)]
    cases ho : opn p i with
    | true =>
      rw [lo_go hp, stD_yes ho]
      have q : isD (.int (lo p i : Nat)) .non = some (.bl false) := rfl
      generalize (runs p i).map prD = R at *
      generalize ((lo p i : Nat) : Int) = L at *
      generalize f i = d at *
      generalize ((i : Nat) : Int) = I at *
      generalize hk : ((k : Nat) : Int) = K at *
      simp only [b_intervals_0, runF, gdO, finR, endF, allO, sSeq, sSet, setR, sOf, leak, mNextS, andThen, mVar, mC, slot, peek, peeks, nrm, O.pk, O.frz, mIf, mTB, mTru, mAnd, mOr, mNot, mOp1, mOp2, mOl1, mOl2, mTup, mLst, mLks, mDct, mDvs, mBi, mBl, mRs, mSm0, mSm1, mSl, mSlL, mPt, mIt, mItZ, zipR, mCall, asArgs, asArg, back, ofRes, mergeO, ofO, ofOS, sIf, sRet, sRetN, sPass, sExp, sAug, sUnp, sPar, sAsg2, sSto, sBrk, sCnt, sFor, sDrop, sMatch, mtL, mOs, setAll, sPut, mItK, mMut0, mMut1, wipeE, unwipe, lcEnd, mLc, mYes, mItS, mItR, mChain, mStar, mLstD, sSlSto, mCallV, mGet2, zipS, mBad, sBad, mNotV, mAndV, mOrV, Tg.put, putAll, List.map_cons, List.map_nil, List.replicate, List.cons_append, List.nil_append, List.getElem?_cons_zero, List.getElem?_cons_succ, Option.bind_some, List.set_cons_zero, List.set_cons_succ, List.take_succ_cons, List.take_zero, List.headD_cons, List.headD_nil, List.tail_cons, List.tail_nil, Option.map_some, Option.map_none, if_true, if_false, Bool.false_eq_true, ite_true, ite_false, Bool.not_true, Bool.not_false, Bool.true_and, Bool.false_and, List.contains, List.elem, List.append_nil, List.length_cons, List.length_nil, Nat.zero_add, Nat.reduceAdd, Nat.reduceLeDiff, lim, Nat.reduceBEq, beq_self_eq_true, Bool.and_self, nt, hF, q]
    | false =>
      rw [lo_open hp ho, stD_no ho]
      have q : isD .non .non = some (.bl true) := rfl
      generalize (runs p i).map prD = R at *
      generalize f i = d at *
      generalize ((i : Nat) : Int) = I at *
      generalize hk : ((k : Nat) : Int) = K at *
      simp only [b_intervals_0, runF, gdO, finR, endF, allO, sSeq, sSet, setR, sOf, leak, mNextS, andThen, mVar, mC, slot, peek, peeks, nrm, O.pk, O.frz, mIf, mTB, mTru, mAnd, mOr, mNot, mOp1, mOp2, mOl1, mOl2, mTup, mLst, mLks, mDct, mDvs, mBi, mBl, mRs, mSm0, mSm1, mSl, mSlL, mPt, mIt, mItZ, zipR, mCall, asArgs, asArg, back, ofRes, mergeO, ofO, ofOS, sIf, sRet, sRetN, sPass, sExp, sAug, sUnp, sPar, sAsg2, sSto, sBrk, sCnt, sFor, sDrop, sMatch, mtL, mOs, setAll, sPut, mItK, mMut0, mMut1, wipeE, unwipe, lcEnd, mLc, mYes, mItS, mItR, mChain, mStar, mLstD, sSlSto, mCallV, mGet2, zipS, mBad, sBad, mNotV, mAndV, mOrV, Tg.put, putAll, List.map_cons, List.map_nil, List.replicate, List.cons_append, List.nil_append, List.getElem?_cons_zero, List.getElem?_cons_succ, Option.bind_some, List.set_cons_zero, List.set_cons_succ, List.take_succ_cons, List.take_zero, List.headD_cons, List.headD_nil, List.tail_cons, List.tail_nil, Option.map_some, Option.map_none, if_true, if_false, Bool.false_eq_true, ite_true, ite_false, Bool.not_true, Bool.not_false, Bool.true_and, Bool.false_and, List.contains, List.elem, List.append_nil, List.length_cons, List.length_nil, Nat.zero_add, Nat.reduceAdd, Nat.reduceLeDiff, lim, Nat.reduceBEq, beq_self_eq_true, Bool.and_self, nt, hF, q]
  | false =>
    rw [hp] at hF
    rw [stD_no (show opn p (i + 1) = false from hp)]
    cases ho : opn p i with
    | true =>
      rw [runs_end hp ho, stD_yes ho, List.map_append]
      have q : isntD (.int (lo p i : Nat)) .non = some (.bl true) := rfl
      have ap := app_ok ((runs p i).map prD) (.tup [.int (lo p i : Nat), .int (i : Nat)]) (by rw [List.length_map]; have := runs_len p i; omega)
      have e : [(lo p i, i)].map prD = [.tup [.int (lo p i : Nat), .int (i : Nat)]] := rfl
      rw [e]
      generalize (runs p i).map prD ++ [.tup [.int (lo p i : Nat), .int (i : Nat)]] = R1 at *
      generalize (runs p i).map prD = R at *
      generalize ((lo p i : Nat) : Int) = L at *
      generalize f i = d at *
      generalize ((i : Nat) : Int) = I at *
      generalize hk : ((k : Nat) : Int) = K at *
      simp only [b_intervals_0, runF, gdO, finR, endF, allO, sSeq, sSet, setR, sOf, leak, mNextS, andThen, mVar, mC, slot, peek, peeks, nrm, O.pk, O.frz, mIf, mTB, mTru, mAnd, mOr, mNot, mOp1, mOp2, mOl1, mOl2, mTup, mLst, mLks, mDct, mDvs, mBi, mBl, mRs, mSm0, mSm1, mSl, mSlL, mPt, mIt, mItZ, zipR, mCall, asArgs, asArg, back, ofRes, mergeO, ofO, ofOS, sIf, sRet, sRetN, sPass, sExp, sAug, sUnp, sPar, sAsg2, sSto, sBrk, sCnt, sFor, sDrop, sMatch, mtL, mOs, setAll, sPut, mItK, mMut0, mMut1, wipeE, unwipe, lcEnd, mLc, mYes, mItS, mItR, mChain, mStar, mLstD, sSlSto, mCallV, mGet2, zipS, mBad, sBad, mNotV, mAndV, mOrV, Tg.put, putAll, List.map_cons, List.map_nil, List.replicate, List.cons_append, List.nil_append, List.getElem?_cons_zero, List.getElem?_cons_succ, Option.bind_some, List.set_cons_zero, List.set_cons_succ, List.take_succ_cons, List.take_zero, List.headD_cons, List.headD_nil, List.tail_cons, List.tail_nil, Option.map_some, Option.map_none, if_true, if_false, Bool.false_eq_true, ite_true, ite_false, Bool.not_true, Bool.not_false, Bool.true_and, Bool.false_and, List.contains, List.elem, List.append_nil, List.length_cons, List.length_nil, Nat.zero_add, Nat.reduceAdd, Nat.reduceLeDiff, lim, Nat.reduceBEq, beq_self_eq_true, Bool.and_self, nt, hF, q, ap]
    | false =>
      rw [runs_no hp ho, stD_no ho]
      have q : isntD .non .non = some (.bl false) := rfl
      generalize (runs p i).map prD = R at *
      generalize f i = d at *
      generalize ((i : Nat) : Int) = I at *
      generalize hk : ((k : Nat) : Int) = K at *
      simp only [b_intervals_0, runF, gdO, finR, endF, allO, sSeq, sSet, setR, sOf, leak, mNextS, andThen, mVar, mC, slot, peek, peeks, nrm, O.pk, O.frz, mIf, mTB, mTru, mAnd, mOr, mNot, mOp1, mOp2, mOl1, mOl2, mTup, mLst, mLks, mDct, mDvs, mBi, mBl, mRs, mSm0, mSm1, mSl, mSlL, mPt, mIt, mItZ, zipR, mCall, asArgs, asArg, back, ofRes, mergeO, ofO, ofOS, sIf, sRet, sRetN, sPass, sExp, sAug, sUnp, sPar, sAsg2, sSto, sBrk, sCnt, sFor, sDrop, sMatch, mtL, mOs, setAll, sPut, mItK, mMut0, mMut1, wipeE, unwipe, lcEnd, mLc, mYes, mItS, mItR, mChain, mStar, mLstD, sSlSto, mCallV, mGet2, zipS, mBad, sBad, mNotV, mAndV, mOrV, Tg.put, putAll, List.map_cons, List.map_nil, List.replicate, List.cons_append, List.nil_append, List.getElem?_cons_zero, List.getElem?_cons_succ, Option.bind_some, List.set_cons_zero, List.set_cons_succ, List.take_succ_cons, List.take_zero, List.headD_cons, List.headD_nil, List.tail_cons, List.tail_nil, Option.map_some, Option.map_none, if_true, if_false, Bool.false_eq_true, ite_true, ite_false, Bool.not_true, Bool.not_false, Bool.true_and, Bool.false_and, List.contains, List.elem, List.append_nil, List.length_cons, List.length_nil, Nat.zero_add, Nat.reduceAdd, Nat.reduceLeDiff, lim, Nat.reduceBEq, beq_self_eq_true, Bool.and_self, nt, hF, q]
theorem z_int {n k : Nat} {f : Nat → F.D} {p : Nat → Bool} (hn : n ≤ 1000) (hp : p n = false) (hF : ∀ i, i < n → Fs k [.sh (f i)] = .rt (.sh (.bl (p i))) [.sh (f i)]) :
    Z_intervals [.sh (.lst (tab n f)), .sh (.ex 1 (.int (k : Nat)))] = .rt (.fl ((runs p (n + 1)).map prD)) [.sh (.lst (tab n f)), .sh (.ex 1 (.int (k : Nat)))] := by
  have l := int_loop hn hF
  have i : itEL (.lst (tab n f)) = some ((List.range n).map fun i => F.D.tup [.int (i : Nat), f i]) := by
    show some (enumF 0 (tab n f)) = _
    rw [enum_tab]
  have ln := len_lst (tab n f)
  rw [tab_len] at ln
  cases ho : opn p n with
  | false =>
    rw [runs_no hp ho]
    rw [stD_no ho] at l
    have q : isD .non .non = some (.bl true) := rfl
    generalize tab n f = T at *
    generalize ((List.range n).map fun i => F.D.tup [.int (i : Nat), f i]) = I0 at *
    generalize (runs p n).map prD = R at *
    generalize ((k : Nat) : Int) = K at *
    simp only [Z_intervals, m_intervals, runF, gdO, finR, endF, allO, sSeq, sSet, setR, sOf, leak, mNextS, andThen, mVar, mC, slot, peek, peeks, nrm, O.pk, O.frz, mIf, mTB, mTru, mAnd, mOr, mNot, mOp1, mOp2, mOl1, mOl2, mTup, mLst, mLks, mDct, mDvs, mBi, mBl, mRs, mSm0, mSm1, mSl, mSlL, mPt, mIt, mItZ, zipR, mCall, asArgs, asArg, back, ofRes, mergeO, ofO, ofOS, sIf, sRet, sRetN, sPass, sExp, sAug, sUnp, sPar, sAsg2, sSto, sBrk, sCnt, sFor, sDrop, sMatch, mtL, mOs, setAll, sPut, mItK, mMut0, mMut1, wipeE, unwipe, lcEnd, mLc, mYes, mItS, mItR, mChain, mStar, mLstD, sSlSto, mCallV, mGet2, zipS, mBad, sBad, mNotV, mAndV, mOrV, Tg.put, putAll, List.map_cons, List.map_nil, List.replicate, List.cons_append, List.nil_append, List.getElem?_cons_zero, List.getElem?_cons_succ, Option.bind_some, List.set_cons_zero, List.set_cons_succ, List.take_succ_cons, List.take_zero, List.headD_cons, List.headD_nil, List.tail_cons, List.tail_nil, Option.map_some, Option.map_none, if_true, if_false, Bool.false_eq_true, ite_true, ite_false, Bool.not_true, Bool.not_false, Bool.true_and, Bool.false_and, List.contains, List.elem, List.append_nil, List.length_cons, List.length_nil, Nat.zero_add, Nat.reduceAdd, Nat.reduceLeDiff, lim, Nat.reduceBEq, beq_self_eq_true, Bool.and_self, i, l, q]
  | true =>
    rw [runs_end hp ho, List.map_append]
    rw [stD_yes ho] at l
    have q : isD (.int (lo p n : Nat)) .non = some (.bl false) := rfl
    have hl : (((runs p n).map prD ++ [F.D.tup [.int (lo p n : Nat), .int (n : Nat)]]).length ≤ 16777216) = True := eq_true (by
      rw [List.length_append, List.length_map]
      have := runs_len p n
      simp only [List.length_cons, List.length_nil]
      omega)
    have e : [(lo p n, n)].map prD = [.tup [.int (lo p n : Nat), .int (n : Nat)]] := rfl
    rw [e]
    generalize tab n f = T at *
    generalize ((List.range n).map fun i => F.D.tup [.int (i : Nat), f i]) = I0 at *
    generalize (runs p n).map prD = R at *
    generalize ((lo p n : Nat) : Int) = L at *
    generalize ((k : Nat) : Int) = K at *
    generalize ((n : Nat) : Int) = N at *
    simp only [Z_intervals, m_intervals, runF, gdO, finR, endF, allO, sSeq, sSet, setR, sOf, leak, mNextS, andThen, mVar, mC, slot, peek, peeks, nrm, O.pk, O.frz, mIf, mTB, mTru, mAnd, mOr, mNot, mOp1, mOp2, mOl1, mOl2, mTup, mLst, mLks, mDct, mDvs, mBi, mBl, mRs, mSm0, mSm1, mSl, mSlL, mPt, mIt, mItZ, zipR, mCall, asArgs, asArg, back, ofRes, mergeO, ofO, ofOS, sIf, sRet, sRetN, sPass, sExp, sAug, sUnp, sPar, sAsg2, sSto, sBrk, sCnt, sFor, sDrop, sMatch, mtL, mOs, setAll, sPut, mItK, mMut0, mMut1, wipeE, unwipe, lcEnd, mLc, mYes, mItS, mItR, mChain, mStar, mLstD, sSlSto, mCallV, mGet2, zipS, mBad, sBad, mNotV, mAndV, mOrV, Tg.put, putAll, List.map_cons, List.map_nil, List.replicate, List.cons_append, List.nil_append, List.getElem?_cons_zero, List.getElem?_cons_succ, Option.bind_some, List.set_cons_zero, List.set_cons_succ, List.take_succ_cons, List.take_zero, List.headD_cons, List.headD_nil, List.tail_cons, List.tail_nil, Option.map_some, Option.map_none, if_true, if_false, Bool.false_eq_true, ite_true, ite_false, Bool.not_true, Bool.not_false, Bool.true_and, Bool.false_and, List.contains, List.elem, List.append_nil, List.length_cons, List.length_nil, Nat.zero_add, Nat.reduceAdd, Nat.reduceLeDiff, lim, Nat.reduceBEq, beq_self_eq_true, Bool.and_self, i, l, q, ln, hl]
/-! the rules 3 and 4 -/
def tP (x : List Nat) (i : Nat) : Bool := decide (gx x i = 84)
theorem gx_out {x : List Nat} {i : Nat} (h : x.length ≤ i) : gx x i = 0 := by
  unfold gx
  rw [List.getD_eq_getElem?_getD, List.getElem?_eq_none h]
  rfl
theorem tP_out {x : List Nat} (i : Nat) (h : x.length ≤ i) : tP x i = false := by
  unfold tP
  rw [gx_out h]
  rfl
theorem k0_D {x : List Nat} {i : Nat} (h : gx x i = 68) : k0 x i = .pl ∨ k0 x i = .ea := by
  unfold k0
  rw [if_pos h]
  split
  · exact .inr rfl
  · exact .inl rfl
/-- what a kind is -/
theorem k1_cases (x : List Nat) (i : Nat) : ((k1 x i = .pl ∨ k1 x i = .ea) ∧ (gx x i = 68 ∨ gx x i = 83)) ∨ (k1 x i = .c (gx x i) ∧ gx x i ≠ 68) := by
  unfold k1
  by_cases h : sj x i = true
  · rw [if_pos h]
    unfold sj at h
    have h := of_decide_eq_true h
    exact .inl ⟨k0_D h.2.2.2.1, .inr h.1⟩
  · rw [if_neg h]
    by_cases q : gx x i = 68
    · exact .inl ⟨k0_D q, .inl q⟩
    · exact .inr ⟨k0_C q, q⟩
theorem eq_T (x : List Nat) (i : Nat) : eqD (encP (k1 x i)) (.str [84]) = some (.bl (tP x i)) := by
  unfold tP
  rcases k1_cases x i with ⟨h, g⟩ | ⟨h, g⟩
  · have : decide (gx x i = 84) = false := decide_eq_false (by omega)
    rw [this]
    rcases h with h | h <;> rw [h] <;> rfl
  · rw [h]
    exact eq_ch _ _
theorem l0_ok (x : List Nat) (i : Nat) : Fs 0 [.sh (encP (k1 x i))] = .rt (.sh (.bl (tP x i))) [.sh (encP (k1 x i))] := by
  show Z_l0 _ = _
  have h := eq_T x i
  generalize encP (k1 x i) = d at *
  simp only [Z_l0, m_l0, runF, gdO, finR, endF, allO, sSeq, sSet, setR, sOf, leak, mNextS, andThen, mVar, mC, slot, peek, peeks, nrm, O.pk, O.frz, mIf, mTB, mTru, mAnd, mOr, mNot, mOp1, mOp2, mOl1, mOl2, mTup, mLst, mLks, mDct, mDvs, mBi, mBl, mRs, mSm0, mSm1, mSl, mSlL, mPt, mIt, mItZ, zipR, mCall, asArgs, asArg, back, ofRes, mergeO, ofO, ofOS, sIf, sRet, sRetN, sPass, sExp, sAug, sUnp, sPar, sAsg2, sSto, sBrk, sCnt, sFor, sDrop, sMatch, mtL, mOs, setAll, sPut, mItK, mMut0, mMut1, wipeE, unwipe, lcEnd, mLc, mYes, mItS, mItR, mChain, mStar, mLstD, sSlSto, mCallV, mGet2, zipS, mBad, sBad, mNotV, mAndV, mOrV, Tg.put, putAll, List.map_cons, List.map_nil, List.replicate, List.cons_append, List.nil_append, List.getElem?_cons_zero, List.getElem?_cons_succ, Option.bind_some, List.set_cons_zero, List.set_cons_succ, List.take_succ_cons, List.take_zero, List.headD_cons, List.headD_nil, List.tail_cons, List.tail_nil, Option.map_some, Option.map_none, if_true, if_false, Bool.false_eq_true, ite_true, ite_false, Bool.not_true, Bool.not_false, Bool.true_and, Bool.false_and, List.contains, List.elem, List.append_nil, List.length_cons, List.length_nil, Nat.zero_add, Nat.reduceAdd, Nat.reduceLeDiff, lim, Nat.reduceBEq, beq_self_eq_true, Bool.and_self, h]
def joined (x : List Nat) (a b : Nat) : Bool := (decide (0 < a) && decide (k1 x (a - 1) = .pl)) || (decide (b < x.length) && decide (k1 x b = .pl))
def vT (x : List Nat) (a b : Nat) : Option Kd := if joined x a b = true then some .pl else none
theorem eq_pl (k : Kd) : eqB (encP k) (.str c_PLAIN) = decide (k = .pl) := by
  cases k with
  | c k =>
    show ([k] == c_PLAIN) = _
    rw [decide_eq_false (by intro z; cases z)]
    exact beq_eq_false_iff_ne.mpr fun z => by cases z
  | pl => rfl
  | ea => rfl
theorem encP_pl (k : Kd) : (encP k).pl = true := by cases k <;> rfl
theorem in_pl {l : List F.D} (h : pls l = true) : inD (.str c_PLAIN) (.lst l) = some (.bl (l.any fun y => eqB y (.str c_PLAIN))) := by
  show (if (F.D.str c_PLAIN).pl && pls l && decide ((F.D.str c_PLAIN).dp ≤ 50) then some (l.any fun y => eqB y (.str c_PLAIN)) else none).map F.D.bl = _
  rw [h]
  rfl
theorem cutI_nat (n d i : Nat) : cutI n d (some ((i : Nat) : Int)) = min i n := by
  show (if ((i : Nat) : Int) < 0 then (((i : Nat) : Int) + (n : Int)).toNat else min ((i : Nat) : Int).toNat n) = _
  rw [if_neg (by omega), Int.toNat_natCast]
theorem cut_nat {α : Type} (l : List α) (i j : Nat) : cut l (some ((i : Nat) : Int)) (some ((j : Nat) : Int)) = (l.drop (min i l.length)).take (min j l.length - min i l.length) := by
  unfold cut
  rw [cutI_nat, cutI_nat]
theorem cut_one {n i : Nat} (f : Nat → F.D) : cut (tab n f) (some ((i : Nat) : Int)) (some ((i + 1 : Nat) : Int)) = if i < n then [f i] else [] := by
  rw [cut_nat, tab_len]
  by_cases h : i < n
  · rw [if_pos h, show min i n = i by omega, show min (i + 1) n - i = 1 by omega, drop_tab f (by omega), take_tab _ (by omega)]
    rfl
  · rw [if_neg h, show min (i + 1) n - min i n = 0 by omega]
    rfl
theorem cut_before {n a : Nat} (f : Nat → F.D) (h : a ≤ n) : cut (tab n f) (some ((a - 1 : Nat) : Int)) (some ((a : Nat) : Int)) = if 0 < a then [f (a - 1)] else [] := by
  by_cases h0 : 0 < a
  · have := cut_one (n := n) (i := a - 1) f
    rw [show a - 1 + 1 = a by omega, if_pos (by omega)] at this
    rw [if_pos h0, this]
  · rw [if_neg h0, show a = 0 by omega, cut_nat]
    simp
theorem max_pred (a : Nat) : max2D [.int 0, .int ((a : Nat) - 1 : Int)] = some (.int ((a - 1 : Nat) : Int)) := by
  rw [max_int]
  congr 2
  split <;> omega
theorem rep_1 {v : F.D} {a b : Nat} (h : a ≤ b) (h2 : b ≤ 1000) : repL (.lst [v]) (.int ((b : Nat) - (a : Nat) : Int)) = some (List.replicate (b - a) v) := by
  have : repL (.lst [v]) (.int ((b : Nat) - (a : Nat) : Int)) = if -9223372036854775808 ≤ ((b : Nat) - (a : Nat) : Int) ∧ ((b : Nat) - (a : Nat) : Int) < 9223372036854775808 ∧ [v].length * ((b : Nat) - (a : Nat) : Int).toNat ≤ F.lim then some (repN [v] ((b : Nat) - (a : Nat) : Int).toNat) else none := rfl
  rw [this, show ((b : Nat) - (a : Nat) : Int).toNat = b - a by omega, if_pos ⟨by omega, by omega, by simp only [List.length_cons, List.length_nil]; show _ ≤ 16777216; omega⟩, repN_eq]
theorem fill_ok {n a b : Nat} (f : Nat → F.D) (v : F.D) (h1 : a ≤ b) (h2 : b ≤ n) : (tab n f).take ((a : Nat) : Int).toNat ++ List.replicate (b - a) v ++ (tab n f).drop ((b : Nat) : Int).toNat = tab n fun j => if a ≤ j ∧ j < b then v else f j := by
  rw [Int.toNat_natCast, Int.toNat_natCast, fill_tab f v h1 h2]
theorem fill_c {n a b : Nat} (f : Nat → F.D) (v : F.D) (h1 : a ≤ b) (h2 : b ≤ n) (h3 : n ≤ 1000) : (0 ≤ ((a : Nat) : Int) ∧ ((a : Nat) : Int) ≤ ((b : Nat) : Int) ∧ ((b : Nat) : Int) ≤ ((tab n f).length : Nat) ∧ (tab n f).length + (List.replicate (b - a) v).length ≤ 16777216) = True := eq_true (by
  rw [tab_len, List.length_replicate]
  omega)
theorem if_map {α β : Type} (E : α → β) (c : Prop) [Decidable c] (a b : α) : E (if c then a else b) = if c then E a else E b := by split <;> rfl
theorem sj_step (x : List Nat) (hn : x.length ≤ 1000) (f : Nat → Kd) {ab : Nat × Nat} (h1 : ab.1 < ab.2) (h2 : ab.2 ≤ x.length) :
    b_signs_joined_0 [some (.sh (.lst (tab x.length fun j => encP (k1 x j)))), some (.fl (tab x.length fun j => encP (f j))), some (.sh (.int (ab.1 : Nat))), some (.sh (.int (ab.2 : Nat))), none] =
      .nx [some (.sh (.lst (tab x.length fun j => encP (k1 x j)))), some (.fl (tab x.length fun j => encP (fillF (vT x) f ab j))), none, none, none] := by
  obtain ⟨a, b⟩ := ab
  have h1 : a < b := h1
  have h2 : b ≤ x.length := h2
  have s1 := sub_int (a : Nat) 1
  have mx := max_pred a
  have ad := add_int (b : Nat) 1
  have c1 : slL (.lst (tab x.length fun j => encP (k1 x j))) (some ((a - 1 : Nat) : Int)) (some ((a : Nat) : Int)) = some (if 0 < a then [encP (k1 x (a - 1))] else []) := by
    show some (cut _ _ _) = _
    rw [cut_before _ (by omega)]
  have c2 : slL (.lst (tab x.length fun j => encP (k1 x j))) (some ((b : Nat) : Int)) (some ((b : Nat) + 1 : Int)) = some (if b < x.length then [encP (k1 x b)] else []) := by
    show some (cut _ _ _) = _
    rw [show ((b : Nat) : Int) + 1 = ((b + 1 : Nat) : Int) by omega, cut_one]
  have ct : catL (.lst (if 0 < a then [encP (k1 x (a - 1))] else [])) (.lst (if b < x.length then [encP (k1 x b)] else [])) = some ((if 0 < a then [encP (k1 x (a - 1))] else []) ++ (if b < x.length then [encP (k1 x b)] else [])) := if_pos (by
    split <;> split <;> simp only [List.length_cons, List.length_nil] <;> decide)
  have ip : inD (.str c_PLAIN) (.lst ((if 0 < a then [encP (k1 x (a - 1))] else []) ++ (if b < x.length then [encP (k1 x b)] else []))) = some (.bl (joined x a b)) := by
    rw [in_pl (pls_all fun d hd => by
      rcases List.mem_append.mp hd with hd | hd
      · split at hd
        · rw [List.mem_singleton.mp hd]
          exact encP_pl _
        · cases hd
      · split at hd
        · rw [List.mem_singleton.mp hd]
          exact encP_pl _
        · cases hd)]
    rw [List.any_append]
    unfold joined
    by_cases q1 : 0 < a <;> by_cases q2 : b < x.length <;> simp [q1, q2, eq_pl]
  have s2 := sub_int (b : Nat) (a : Nat)
  have rp := rep_1 (v := .str c_PLAIN) (Nat.le_of_lt h1) (by omega : b ≤ 1000)
  have fc := fill_c (fun j => encP (f j)) (.str c_PLAIN) (Nat.le_of_lt h1) h2 hn
  have fo := fill_ok (fun j => encP (f j)) (.str c_PLAIN) (Nat.le_of_lt h1) h2
  have e1 : joined x a b = true → (tab x.length fun j => if a ≤ j ∧ j < b then .str c_PLAIN else encP (f j)) = tab x.length fun j => encP (fillF (vT x) f (a, b) j) := fun q => tab_congr fun j hj => by
    unfold fillF vT
    rw [if_map encP]
    dsimp only
    rw [if_pos q]
    rfl
  have e2 : joined x a b = false → (tab x.length fun j => encP (f j)) = tab x.length fun j => encP (fillF (vT x) f (a, b) j) := fun q => tab_congr fun j hj => by
    show encP (f j) = encP (if a ≤ j ∧ j < b then (if joined x a b = true then some Kd.pl else none).getD (f j) else f j)
    rw [q]
    split <;> rfl
  generalize (tab x.length fun j => encP (k1 x j)) = T at *
  generalize (if 0 < a then [encP (k1 x (a - 1))] else []) = S1 at *
  generalize (if b < x.length then [encP (k1 x b)] else []) = S2 at *
  generalize S1 ++ S2 = S3 at *
  generalize (tab x.length fun j => encP (fillF (vT x) f (a, b) j)) = T1 at *
  generalize (tab x.length fun j => if a ≤ j ∧ j < b then F.D.str c_PLAIN else encP (f j)) = T2 at *
  generalize (tab x.length fun j => encP (f j)) = T0 at *
  generalize ((b : Nat) : Int) + 1 = B1 at *
  generalize ((b : Nat) : Int) - ((a : Nat) : Int) = B2 at *
  generalize ((a - 1 : Nat) : Int) = A2 at *
  generalize ((a : Nat) : Int) - 1 = A1 at *
  generalize ((a : Nat) : Int) = A at *
  generalize ((b : Nat) : Int) = B at *
  generalize List.replicate (b - a) (F.D.str c_PLAIN) = Y at *
  cases hj : joined x a b with
  | true =>
    rw [hj] at ip
    rw [← e1 hj]
    simp only [b_signs_joined_0, runF, gdO, finR, endF, allO, sSeq, sSet, setR, sOf, leak, mNextS, andThen, mVar, mC, slot, peek, peeks, nrm, O.pk, O.frz, mIf, mTB, mTru, mAnd, mOr, mNot, mOp1, mOp2, mOl1, mOl2, mTup, mLst, mLks, mDct, mDvs, mBi, mBl, mRs, mSm0, mSm1, mSl, mSlL, mPt, mIt, mItZ, zipR, mCall, asArgs, asArg, back, ofRes, mergeO, ofO, ofOS, sIf, sRet, sRetN, sPass, sExp, sAug, sUnp, sPar, sAsg2, sSto, sBrk, sCnt, sFor, sDrop, sMatch, mtL, mOs, setAll, sPut, mItK, mMut0, mMut1, wipeE, unwipe, lcEnd, mLc, mYes, mItS, mItR, mChain, mStar, mLstD, sSlSto, mCallV, mGet2, zipS, mBad, sBad, mNotV, mAndV, mOrV, Tg.put, putAll, List.map_cons, List.map_nil, List.replicate, List.cons_append, List.nil_append, List.getElem?_cons_zero, List.getElem?_cons_succ, Option.bind_some, List.set_cons_zero, List.set_cons_succ, List.take_succ_cons, List.take_zero, List.headD_cons, List.headD_nil, List.tail_cons, List.tail_nil, Option.map_some, Option.map_none, if_true, if_false, Bool.false_eq_true, ite_true, ite_false, Bool.not_true, Bool.not_false, Bool.true_and, Bool.false_and, List.contains, List.elem, List.append_nil, List.length_cons, List.length_nil, Nat.zero_add, Nat.reduceAdd, Nat.reduceLeDiff, lim, Nat.reduceBEq, beq_self_eq_true, Bool.and_self, s1, mx, ad, c1, c2, ct, ip, s2, rp, fc, fo]
  | false =>
    rw [hj] at ip
    rw [← e2 hj]
    simp only [b_signs_joined_0, runF, gdO, finR, endF, allO, sSeq, sSet, setR, sOf, leak, mNextS, andThen, mVar, mC, slot, peek, peeks, nrm, O.pk, O.frz, mIf, mTB, mTru, mAnd, mOr, mNot, mOp1, mOp2, mOl1, mOl2, mTup, mLst, mLks, mDct, mDvs, mBi, mBl, mRs, mSm0, mSm1, mSl, mSlL, mPt, mIt, mItZ, zipR, mCall, asArgs, asArg, back, ofRes, mergeO, ofO, ofOS, sIf, sRet, sRetN, sPass, sExp, sAug, sUnp, sPar, sAsg2, sSto, sBrk, sCnt, sFor, sDrop, sMatch, mtL, mOs, setAll, sPut, mItK, mMut0, mMut1, wipeE, unwipe, lcEnd, mLc, mYes, mItS, mItR, mChain, mStar, mLstD, sSlSto, mCallV, mGet2, zipS, mBad, sBad, mNotV, mAndV, mOrV, Tg.put, putAll, List.map_cons, List.map_nil, List.replicate, List.cons_append, List.nil_append, List.getElem?_cons_zero, List.getElem?_cons_succ, Option.bind_some, List.set_cons_zero, List.set_cons_succ, List.take_succ_cons, List.take_zero, List.headD_cons, List.headD_nil, List.tail_cons, List.tail_nil, Option.map_some, Option.map_none, if_true, if_false, Bool.false_eq_true, ite_true, ite_false, Bool.not_true, Bool.not_false, Bool.true_and, Bool.false_and, List.contains, List.elem, List.append_nil, List.length_cons, List.length_nil, Nat.zero_add, Nat.reduceAdd, Nat.reduceLeDiff, lim, Nat.reduceBEq, beq_self_eq_true, Bool.and_self, s1, mx, ad, c1, c2, ct, ip]
def kN (k : Kd) : Kd := if k = .c 83 ∨ k = .c 84 then .c 78 else k
def kT (x : List Nat) : Nat → Kd := (runs (tP x) (x.length + 1)).foldl (fillF (vT x)) (k1 x)
theorem in_ST (k : Kd) : inD (encP k) (.tup [.str [83], .str [84]]) = some (.bl (decide (k = .c 83 ∨ k = .c 84))) := by
  cases k with
  | c k =>
    show some (F.D.bl (([83] == [k]) || (([84] == [k]) || false))) = _
    by_cases h1 : k = 83
    · subst h1
      rfl
    · by_cases h2 : k = 84
      · subst h2
        rfl
      · have a1 : (([83] : List Nat) == [k]) = false := beq_eq_false_iff_ne.mpr fun z => h1 (by cases z; rfl)
        have a2 : (([84] : List Nat) == [k]) = false := beq_eq_false_iff_ne.mpr fun z => h2 (by cases z; rfl)
        rw [a1, a2, decide_eq_false (by rintro (z | z) <;> cases z <;> contradiction)]
        rfl
  | pl => rfl
  | ea => rfl
theorem z_sj (x : List Nat) (hn : x.length ≤ 1000) : Z_signs_joined [.sh (.lst (tab x.length fun j => encP (k1 x j)))] = .rt (.fl (tab x.length fun j => encP (kN (kT x j)))) [.sh (.lst (tab x.length fun j => encP (k1 x j)))] := by
  have zi := z_int (k := 0) (f := fun j => encP (k1 x j)) (p := tP x) hn (tP_out _ (Nat.le_refl _)) fun i _ => l0_ok x i
  have lp := for_fold (enc := prD) (as := runs (tP x) (x.length + 1)) (t := .tp [(.nm 2), (.nm 3)]) (body := b_signs_joined_0) (I := fun _ => True) (step := fillF (vT x)) (s := k1 x)
    (g := fun f => [some (.sh (.lst (tab x.length fun j => encP (k1 x j)))), some (.fl (tab x.length fun j => encP (f j))), none, none, none]) (fun f ab hab _ => ⟨⟨_, rfl, sj_step x hn f (runs_mem hab).1 (Nat.le_of_lt_succ (runs_mem hab).2)⟩, trivial⟩) trivial
  have lp := lp.1
  have ll : listL [.lst (tab x.length fun j => encP (k1 x j))] = some (tab x.length fun j => encP (k1 x j)) := rfl
  have il := itL_x ((runs (tP x) (x.length + 1)).map prD)
  have il2 := itL_x (tab x.length fun j => encP (kT x j))
  have hl : ((tab x.length fun j => encP (kT x j)).length ≤ 16777216) = True := eq_true (by rw [tab_len]; omega)
  have lc := fun (e0 e1 e2 e3 : Option O) => lc_map (enc := fun i => encP (kT x i)) (own := [4]) (t := .nm 4) (c := mYes) (v := (mIf (mTB (mOp2 inD (mVar 4) (mTup [(mC (.str [83])), (mC (.str [84]))]))) (mC (.str [78])) (mVar 4))) (e := [e0, e1, e2, e3, none]) (f := fun i => encP (kN (kT x i))) (as := List.range x.length) (acc := []) fun i _ => by
    have h := in_ST (kT x i)
    show lcOne _ _ _ _ (encP (kT x i)) _ = some (some (encP (kN (kT x i))), _)
    unfold kN
    by_cases c : kT x i = .c 83 ∨ kT x i = .c 84
    · rw [decide_eq_true c] at h
      rw [if_pos c]
      generalize encP (kT x i) = d at *
      simp only [lcOne, runF, gdO, finR, endF, allO, sSeq, sSet, setR, sOf, leak, mNextS, andThen, mVar, mC, slot, peek, peeks, nrm, O.pk, O.frz, mIf, mTB, mTru, mAnd, mOr, mNot, mOp1, mOp2, mOl1, mOl2, mTup, mLst, mLks, mDct, mDvs, mBi, mBl, mRs, mSm0, mSm1, mSl, mSlL, mPt, mIt, mItZ, zipR, mCall, asArgs, asArg, back, ofRes, mergeO, ofO, ofOS, sIf, sRet, sRetN, sPass, sExp, sAug, sUnp, sPar, sAsg2, sSto, sBrk, sCnt, sFor, sDrop, sMatch, mtL, mOs, setAll, sPut, mItK, mMut0, mMut1, wipeE, unwipe, lcEnd, mLc, mYes, mItS, mItR, mChain, mStar, mLstD, sSlSto, mCallV, mGet2, zipS, mBad, sBad, mNotV, mAndV, mOrV, Tg.put, putAll, List.map_cons, List.map_nil, List.replicate, List.cons_append, List.nil_append, List.getElem?_cons_zero, List.getElem?_cons_succ, Option.bind_some, List.set_cons_zero, List.set_cons_succ, List.take_succ_cons, List.take_zero, List.headD_cons, List.headD_nil, List.tail_cons, List.tail_nil, Option.map_some, Option.map_none, if_true, if_false, Bool.false_eq_true, ite_true, ite_false, Bool.not_true, Bool.not_false, Bool.true_and, Bool.false_and, List.contains, List.elem, List.append_nil, List.length_cons, List.length_nil, Nat.zero_add, Nat.reduceAdd, Nat.reduceLeDiff, lim, Nat.reduceBEq, beq_self_eq_true, Bool.and_self, h, encP, chD]
    · rw [decide_eq_false c] at h
      rw [if_neg c]
      generalize encP (kT x i) = d at *
      simp only [lcOne, runF, gdO, finR, endF, allO, sSeq, sSet, setR, sOf, leak, mNextS, andThen, mVar, mC, slot, peek, peeks, nrm, O.pk, O.frz, mIf, mTB, mTru, mAnd, mOr, mNot, mOp1, mOp2, mOl1, mOl2, mTup, mLst, mLks, mDct, mDvs, mBi, mBl, mRs, mSm0, mSm1, mSl, mSlL, mPt, mIt, mItZ, zipR, mCall, asArgs, asArg, back, ofRes, mergeO, ofO, ofOS, sIf, sRet, sRetN, sPass, sExp, sAug, sUnp, sPar, sAsg2, sSto, sBrk, sCnt, sFor, sDrop, sMatch, mtL, mOs, setAll, sPut, mItK, mMut0, mMut1, wipeE, unwipe, lcEnd, mLc, mYes, mItS, mItR, mChain, mStar, mLstD, sSlSto, mCallV, mGet2, zipS, mBad, sBad, mNotV, mAndV, mOrV, Tg.put, putAll, List.map_cons, List.map_nil, List.replicate, List.cons_append, List.nil_append, List.getElem?_cons_zero, List.getElem?_cons_succ, Option.bind_some, List.set_cons_zero, List.set_cons_succ, List.take_succ_cons, List.take_zero, List.headD_cons, List.headD_nil, List.tail_cons, List.tail_nil, Option.map_some, Option.map_none, if_true, if_false, Bool.false_eq_true, ite_true, ite_false, Bool.not_true, Bool.not_false, Bool.true_and, Bool.false_and, List.contains, List.elem, List.append_nil, List.length_cons, List.length_nil, Nat.zero_add, Nat.reduceAdd, Nat.reduceLeDiff, lim, Nat.reduceBEq, beq_self_eq_true, Bool.and_self, h]
  have lc : ∀ (e0 e1 e2 e3 : Option O), lcL [4] (.nm 4) mYes (mIf (mTB (mOp2 inD (mVar 4) (mTup [(mC (.str [83])), (mC (.str [84]))]))) (mC (.str [78])) (mVar 4)) (tab x.length fun j => encP (kT x j)) [] [e0, e1, e2, e3, none] = .ok (tab x.length fun j => encP (kN (kT x j))) [e0, e1, e2, e3, none] := lc
  have lp : forL (.tp [(.nm 2), (.nm 3)]) b_signs_joined_0 ((runs (tP x) (x.length + 1)).map prD) [some (.sh (.lst (tab x.length fun j => encP (k1 x j)))), some (.fl (tab x.length fun j => encP (k1 x j))), none, none, none] = .nx [some (.sh (.lst (tab x.length fun j => encP (k1 x j)))), some (.fl (tab x.length fun j => encP (kT x j))), none, none, none] := by
    exact lp
  generalize (tab x.length fun j => encP (kN (kT x j))) = T2 at *
  generalize (tab x.length fun j => encP (kT x j)) = T1 at *
  generalize (tab x.length fun j => encP (k1 x j)) = T0 at *
  generalize (runs (tP x) (x.length + 1)).map prD = R at *
  simp only [Z_signs_joined, m_signs_joined, runF, gdO, finR, endF, allO, sSeq, sSet, setR, sOf, leak, mNextS, andThen, mVar, mC, slot, peek, peeks, nrm, O.pk, O.frz, mIf, mTB, mTru, mAnd, mOr, mNot, mOp1, mOp2, mOl1, mOl2, mTup, mLst, mLks, mDct, mDvs, mBi, mBl, mRs, mSm0, mSm1, mSl, mSlL, mPt, mIt, mItZ, zipR, mCall, asArgs, asArg, back, ofRes, mergeO, ofO, ofOS, sIf, sRet, sRetN, sPass, sExp, sAug, sUnp, sPar, sAsg2, sSto, sBrk, sCnt, sFor, sDrop, sMatch, mtL, mOs, setAll, sPut, mItK, mMut0, mMut1, wipeE, unwipe, lcEnd, mLc, mYes, mItS, mItR, mChain, mStar, mLstD, sSlSto, mCallV, mGet2, zipS, mBad, sBad, mNotV, mAndV, mOrV, Tg.put, putAll, List.map_cons, List.map_nil, List.replicate, List.cons_append, List.nil_append, List.getElem?_cons_zero, List.getElem?_cons_succ, Option.bind_some, List.set_cons_zero, List.set_cons_succ, List.take_succ_cons, List.take_zero, List.headD_cons, List.headD_nil, List.tail_cons, List.tail_nil, Option.map_some, Option.map_none, if_true, if_false, Bool.false_eq_true, ite_true, ite_false, Bool.not_true, Bool.not_false, Bool.true_and, Bool.false_and, List.contains, List.elem, List.append_nil, List.length_cons, List.length_nil, Nat.zero_add, Nat.reduceAdd, Nat.reduceLeDiff, lim, Nat.reduceBEq, beq_self_eq_true, Bool.and_self, ll, zi, il, lp, il2, hl, lc]
end F
end

section
set_option linter.all false
set_option autoImplicit false
set_option maxRecDepth 100000
set_option maxHeartbeats 1000000
/-! the rules 5 and 6; levels -/
namespace F
def k2 (x : List Nat) (i : Nat) : Kd := kN (kT x i)
def dig (k : Kd) : Bool := decide (k = .pl ∨ k = .ea)
def dirB (x : List Nat) (r : Bool) (i : Nat) : Bool := match lastS x i with
  | some c => !decide (c = 76)
  | none => r
def b1 (b : Bool) : Nat := if b = true then 1 else 0
def w0 (x : List Nat) (r : Bool) (i : Nat) : Option Nat := if dig (k2 x i) = true then some (b1 (dirB x r i)) else if k2 x i = .c 78 then none else some (b1 (!decide (k2 x i = .c 76)))
theorem int_b1 (b : Bool) : intD [.bl b] = some (optD (some (b1 b))) := by cases b <;> rfl
theorem in_dig (k : Kd) : inD (encP k) (.tup c_DIGITS) = some (.bl (dig k)) := by
  cases k with
  | c k =>
    have a1 : (([112, 108, 97, 105, 110] : List Nat) == [k]) = false := beq_eq_false_iff_ne.mpr fun z => by cases z
    have a2 : (([101, 97, 115, 116, 101, 114, 110] : List Nat) == [k]) = false := beq_eq_false_iff_ne.mpr fun z => by cases z
    show some (F.D.bl (([112, 108, 97, 105, 110] == [k]) || (([101, 97, 115, 116, 101, 114, 110] == [k]) || false))) = _
    rw [a1, a2]
    rfl
  | pl => rfl
  | ea => rfl
theorem eq_c (k : Kd) (a : Nat) (ha : c_PLAIN ≠ [a]) (hb : c_EASTERN ≠ [a]) : eqD (encP k) (.str [a]) = some (.bl (decide (k = .c a))) := by
  cases k with
  | c k =>
    show eqD (chD k) _ = _
    rw [eq_ch]
    congr 2
    by_cases h : k = a
    · subst h
      simp
    · rw [decide_eq_false h, decide_eq_false fun z => h (by cases z; rfl)]
  | pl =>
    show some (F.D.bl (c_PLAIN == [a])) = _
    rw [beq_eq_false_iff_ne.mpr ha]
    rfl
  | ea =>
    show some (F.D.bl (c_EASTERN == [a])) = _
    rw [beq_eq_false_iff_ne.mpr hb]
    rfl
theorem ne_c (k : Kd) (a : Nat) (ha : c_PLAIN ≠ [a]) (hb : c_EASTERN ≠ [a]) : neD (encP k) (.str [a]) = some (.bl (!decide (k = .c a))) := by
  have := eq_c k a ha hb
  have e : ∀ d e : F.D, ∀ b, eqD d e = some (.bl b) → neD d e = some (.bl (!b)) := fun d e b h => by
    unfold eqD at h
    unfold neD
    split at h
    · rename_i q
      rw [if_pos q]
      cases h
      rfl
    · cases h
  exact e _ _ _ this
theorem ro_loop0 (x : List Nat) (r : Bool) (hn : x.length ≤ 1000) (K B : F.D) : forL (.tp [(.nm 4), (.nm 5)]) b_directions_told_0 ((List.range x.length).map fun i => F.D.tup [encP (k2 x i), bfD x i]) [some (.sh K), some (.sh B), some (.sh (.bl r)), some (.fl []), none, none, none, none, none, none, none] =
    .nx [some (.sh K), some (.sh B), some (.sh (.bl r)), some (.fl (tab x.length fun i => optD (w0 x r i))), none, none, none, none, none, none, none] := by
  refine for_rng (enc := fun i => F.D.tup [encP (k2 x i), bfD x i]) (g := fun i => [some (.sh K), some (.sh B), some (.sh (.bl r)), some (.fl (tab i fun i => optD (w0 x r i))), none, none, none, none, none, none, none]) fun i hi => ?_
  refine ⟨_, rfl, ?_⟩
  have ap := app_ok (tab i fun i => optD (w0 x r i)) (optD (w0 x r i)) (by rw [tab_len]; omega)
  rw [← tab_succ i fun i => optD (w0 x r i)] at ap
  have q1 := in_dig (k2 x i)
  generalize (tab (i + 1) fun i => optD (w0 x r i)) = T1 at *
  generalize (tab i fun i => optD (w0 x r i)) = T0 at *
  cases hd : dig (k2 x i) with
  | true =>
    rw [hd] at q1
    unfold w0 at ap
    rw [if_pos hd] at ap
    unfold dirB at ap
    unfold bfD
    cases hl : lastS x i with
    | none =>
      rw [hl] at ap
      have q2 : isntD (optC none) .non = some (.bl false) := rfl
      have q3 := int_b1 r
      dsimp only at ap
      generalize optC none = C at *
      generalize encP (k2 x i) = k at *
      generalize optD (some (b1 r)) = v at *
      simp only [b_directions_told_0, runF, gdO, finR, endF, allO, sSeq, sSet, setR, sOf, leak, mNextS, andThen, mVar, mC, slot, peek, peeks, nrm, O.pk, O.frz, mIf, mTB, mTru, mAnd, mOr, mNot, mOp1, mOp2, mOl1, mOl2, mTup, mLst, mLks, mDct, mDvs, mBi, mBl, mRs, mSm0, mSm1, mSl, mSlL, mPt, mIt, mItZ, zipR, mCall, asArgs, asArg, back, ofRes, mergeO, ofO, ofOS, sIf, sRet, sRetN, sPass, sExp, sAug, sUnp, sPar, sAsg2, sSto, sBrk, sCnt, sFor, sDrop, sMatch, mtL, mOs, setAll, sPut, mItK, mMut0, mMut1, wipeE, unwipe, lcEnd, mLc, mYes, mItS, mItR, mChain, mStar, mLstD, sSlSto, mCallV, mGet2, zipS, mBad, sBad, mNotV, mAndV, mOrV, Tg.put, putAll, List.map_cons, List.map_nil, List.replicate, List.cons_append, List.nil_append, List.getElem?_cons_zero, List.getElem?_cons_succ, Option.bind_some, List.set_cons_zero, List.set_cons_succ, List.take_succ_cons, List.take_zero, List.headD_cons, List.headD_nil, List.tail_cons, List.tail_nil, Option.map_some, Option.map_none, if_true, if_false, Bool.false_eq_true, ite_true, ite_false, Bool.not_true, Bool.not_false, Bool.true_and, Bool.false_and, List.contains, List.elem, List.append_nil, List.length_cons, List.length_nil, Nat.zero_add, Nat.reduceAdd, Nat.reduceLeDiff, lim, Nat.reduceBEq, beq_self_eq_true, Bool.and_self, q1, q2, q3, ap]
    | some c =>
      rw [hl] at ap
      have q2 : isntD (optC (some c)) .non = some (.bl true) := rfl
      have q3 := int_b1 (!decide (c = 76))
      have q4 : neD (optC (some c)) (.str [76]) = _ := ne_ch c 76
      dsimp only at ap
      generalize optC (some c) = C at *
      generalize encP (k2 x i) = k at *
      generalize (!decide (c = 76)) = b at *
      generalize optD (some (b1 b)) = v at *
      simp only [b_directions_told_0, runF, gdO, finR, endF, allO, sSeq, sSet, setR, sOf, leak, mNextS, andThen, mVar, mC, slot, peek, peeks, nrm, O.pk, O.frz, mIf, mTB, mTru, mAnd, mOr, mNot, mOp1, mOp2, mOl1, mOl2, mTup, mLst, mLks, mDct, mDvs, mBi, mBl, mRs, mSm0, mSm1, mSl, mSlL, mPt, mIt, mItZ, zipR, mCall, asArgs, asArg, back, ofRes, mergeO, ofO, ofOS, sIf, sRet, sRetN, sPass, sExp, sAug, sUnp, sPar, sAsg2, sSto, sBrk, sCnt, sFor, sDrop, sMatch, mtL, mOs, setAll, sPut, mItK, mMut0, mMut1, wipeE, unwipe, lcEnd, mLc, mYes, mItS, mItR, mChain, mStar, mLstD, sSlSto, mCallV, mGet2, zipS, mBad, sBad, mNotV, mAndV, mOrV, Tg.put, putAll, List.map_cons, List.map_nil, List.replicate, List.cons_append, List.nil_append, List.getElem?_cons_zero, List.getElem?_cons_succ, Option.bind_some, List.set_cons_zero, List.set_cons_succ, List.take_succ_cons, List.take_zero, List.headD_cons, List.headD_nil, List.tail_cons, List.tail_nil, Option.map_some, Option.map_none, if_true, if_false, Bool.false_eq_true, ite_true, ite_false, Bool.not_true, Bool.not_false, Bool.true_and, Bool.false_and, List.contains, List.elem, List.append_nil, List.length_cons, List.length_nil, Nat.zero_add, Nat.reduceAdd, Nat.reduceLeDiff, lim, Nat.reduceBEq, beq_self_eq_true, Bool.and_self, q1, q2, q3, q4, ap]
  | false =>
    rw [hd] at q1
    have q2 := eq_c (k2 x i) 78 (by decide) (by decide)
    have q3 := ne_c (k2 x i) 76 (by decide) (by decide)
    have q4 := int_b1 (!decide (k2 x i = .c 76))
    unfold w0 at ap
    rw [if_neg (by rw [hd]; decide)] at ap
    generalize bfD x i = C at *
    by_cases h : k2 x i = .c 78
    · rw [decide_eq_true h] at q2
      rw [if_pos h] at ap
      have ap : appF T0 .non = some (.non, T1) := ap
      generalize encP (k2 x i) = k at *
      simp only [b_directions_told_0, runF, gdO, finR, endF, allO, sSeq, sSet, setR, sOf, leak, mNextS, andThen, mVar, mC, slot, peek, peeks, nrm, O.pk, O.frz, mIf, mTB, mTru, mAnd, mOr, mNot, mOp1, mOp2, mOl1, mOl2, mTup, mLst, mLks, mDct, mDvs, mBi, mBl, mRs, mSm0, mSm1, mSl, mSlL, mPt, mIt, mItZ, zipR, mCall, asArgs, asArg, back, ofRes, mergeO, ofO, ofOS, sIf, sRet, sRetN, sPass, sExp, sAug, sUnp, sPar, sAsg2, sSto, sBrk, sCnt, sFor, sDrop, sMatch, mtL, mOs, setAll, sPut, mItK, mMut0, mMut1, wipeE, unwipe, lcEnd, mLc, mYes, mItS, mItR, mChain, mStar, mLstD, sSlSto, mCallV, mGet2, zipS, mBad, sBad, mNotV, mAndV, mOrV, Tg.put, putAll, List.map_cons, List.map_nil, List.replicate, List.cons_append, List.nil_append, List.getElem?_cons_zero, List.getElem?_cons_succ, Option.bind_some, List.set_cons_zero, List.set_cons_succ, List.take_succ_cons, List.take_zero, List.headD_cons, List.headD_nil, List.tail_cons, List.tail_nil, Option.map_some, Option.map_none, if_true, if_false, Bool.false_eq_true, ite_true, ite_false, Bool.not_true, Bool.not_false, Bool.true_and, Bool.false_and, List.contains, List.elem, List.append_nil, List.length_cons, List.length_nil, Nat.zero_add, Nat.reduceAdd, Nat.reduceLeDiff, lim, Nat.reduceBEq, beq_self_eq_true, Bool.and_self, q1, q2, ap]
    · rw [decide_eq_false h] at q2
      rw [if_neg h] at ap
      generalize encP (k2 x i) = k at *
      generalize (!decide (k2 x i = .c 76)) = b at *
      generalize optD (some (b1 b)) = v at *
      simp only [b_directions_told_0, runF, gdO, finR, endF, allO, sSeq, sSet, setR, sOf, leak, mNextS, andThen, mVar, mC, slot, peek, peeks, nrm, O.pk, O.frz, mIf, mTB, mTru, mAnd, mOr, mNot, mOp1, mOp2, mOl1, mOl2, mTup, mLst, mLks, mDct, mDvs, mBi, mBl, mRs, mSm0, mSm1, mSl, mSlL, mPt, mIt, mItZ, zipR, mCall, asArgs, asArg, back, ofRes, mergeO, ofO, ofOS, sIf, sRet, sRetN, sPass, sExp, sAug, sUnp, sPar, sAsg2, sSto, sBrk, sCnt, sFor, sDrop, sMatch, mtL, mOs, setAll, sPut, mItK, mMut0, mMut1, wipeE, unwipe, lcEnd, mLc, mYes, mItS, mItR, mChain, mStar, mLstD, sSlSto, mCallV, mGet2, zipS, mBad, sBad, mNotV, mAndV, mOrV, Tg.put, putAll, List.map_cons, List.map_nil, List.replicate, List.cons_append, List.nil_append, List.getElem?_cons_zero, List.getElem?_cons_succ, Option.bind_some, List.set_cons_zero, List.set_cons_succ, List.take_succ_cons, List.take_zero, List.headD_cons, List.headD_nil, List.tail_cons, List.tail_nil, Option.map_some, Option.map_none, if_true, if_false, Bool.false_eq_true, ite_true, ite_false, Bool.not_true, Bool.not_false, Bool.true_and, Bool.false_and, List.contains, List.elem, List.append_nil, List.length_cons, List.length_nil, Nat.zero_add, Nat.reduceAdd, Nat.reduceLeDiff, lim, Nat.reduceBEq, beq_self_eq_true, Bool.and_self, q1, q2, q3, q4, ap]
/-! runs without a direction -/
def wP (x : List Nat) (r : Bool) (i : Nat) : Bool := decide (i < x.length) && (w0 x r i).isNone
theorem wP_out {x : List Nat} {r : Bool} (i : Nat) (h : x.length ≤ i) : wP x r i = false := by
  unfold wP
  rw [decide_eq_false (by omega)]
  rfl
def aO (x : List Nat) (r : Bool) (a : Nat) : Option Nat := if 0 < a then w0 x r (a - 1) else some (b1 r)
def bO (x : List Nat) (r : Bool) (b : Nat) : Option Nat := if b < x.length then w0 x r b else some (b1 r)
def vW (x : List Nat) (r : Bool) (a b : Nat) : Option (Option Nat) := some (if aO x r a = bO x r b then aO x r a else some (b1 r))
def told (x : List Nat) (r : Bool) : Nat → Option Nat := (runs (wP x r) (x.length + 1)).foldl (fillF (vW x r)) (w0 x r)
theorem l1_ok (x : List Nat) (r : Bool) (i : Nat) (hi : i < x.length) : Fs 1 [.sh (optD (w0 x r i))] = .rt (.sh (.bl (wP x r i))) [.sh (optD (w0 x r i))] := by
  show Z_l1 _ = _
  have h : isD (optD (w0 x r i)) .non = some (.bl (wP x r i)) := by
    rw [is_non, optD_non]
    unfold wP
    rw [decide_eq_true hi]
    rfl
  generalize optD (w0 x r i) = d at *
  simp only [Z_l1, m_l1, runF, gdO, finR, endF, allO, sSeq, sSet, setR, sOf, leak, mNextS, andThen, mVar, mC, slot, peek, peeks, nrm, O.pk, O.frz, mIf, mTB, mTru, mAnd, mOr, mNot, mOp1, mOp2, mOl1, mOl2, mTup, mLst, mLks, mDct, mDvs, mBi, mBl, mRs, mSm0, mSm1, mSl, mSlL, mPt, mIt, mItZ, zipR, mCall, asArgs, asArg, back, ofRes, mergeO, ofO, ofOS, sIf, sRet, sRetN, sPass, sExp, sAug, sUnp, sPar, sAsg2, sSto, sBrk, sCnt, sFor, sDrop, sMatch, mtL, mOs, setAll, sPut, mItK, mMut0, mMut1, wipeE, unwipe, lcEnd, mLc, mYes, mItS, mItR, mChain, mStar, mLstD, sSlSto, mCallV, mGet2, zipS, mBad, sBad, mNotV, mAndV, mOrV, Tg.put, putAll, List.map_cons, List.map_nil, List.replicate, List.cons_append, List.nil_append, List.getElem?_cons_zero, List.getElem?_cons_succ, Option.bind_some, List.set_cons_zero, List.set_cons_succ, List.take_succ_cons, List.take_zero, List.headD_cons, List.headD_nil, List.tail_cons, List.tail_nil, Option.map_some, Option.map_none, if_true, if_false, Bool.false_eq_true, ite_true, ite_false, Bool.not_true, Bool.not_false, Bool.true_and, Bool.false_and, List.contains, List.elem, List.append_nil, List.length_cons, List.length_nil, Nat.zero_add, Nat.reduceAdd, Nat.reduceLeDiff, lim, Nat.reduceBEq, beq_self_eq_true, Bool.and_self, h]
theorem eq_opt (a b : Option Nat) : eqD (optD a) (optD b) = some (.bl (decide (a = b))) := by
  cases a with
  | none => cases b <;> rfl
  | some a =>
    cases b with
    | none => rfl
    | some b =>
      show some (F.D.bl (((a : Nat) : Int) == ((b : Nat) : Int))) = _
      by_cases h : a = b
      · subst h
        simp
      · rw [decide_eq_false fun z => h (by cases z; rfl), beq_eq_false_iff_ne.mpr fun z => h (by omega)]
theorem ro_step (x : List Nat) (r : Bool) (hn : x.length ≤ 1000) (f : Nat → Option Nat) (K B : F.D) {ab : Nat × Nat} (h1 : ab.1 < ab.2) (h2 : ab.2 ≤ x.length) :
    b_directions_told_1 [some (.sh K), some (.sh B), some (.sh (.bl r)), some (.sh (.lst (tab x.length fun i => optD (w0 x r i)))), none, none, some (.fl (tab x.length fun j => optD (f j))), some (.sh (.int (ab.1 : Nat))), some (.sh (.int (ab.2 : Nat))), none, none] =
      .nx [some (.sh K), some (.sh B), some (.sh (.bl r)), some (.sh (.lst (tab x.length fun i => optD (w0 x r i)))), none, none, some (.fl (tab x.length fun j => optD (fillF (vW x r) f ab j))), none, none, none, none] := by
  obtain ⟨a, b⟩ := ab
  have h1 : a < b := h1
  have h2 : b ≤ x.length := h2
  have g1 := gt_int (a : Nat) 0
  have s1 := sub_int (a : Nat) 1
  have l1 := lt_int (b : Nat) (x.length : Nat)
  have ln := len_lst (tab x.length fun i => optD (w0 x r i))
  rw [tab_len] at ln
  have i1 := int_b1 r
  have ea : 0 < a → ixD (.lst (tab x.length fun i => optD (w0 x r i))) (.int ((a : Nat) - 1 : Int)) = some (optD (aO x r a)) := fun h => by
    rw [ix_tabP _ h (by omega)]
    unfold aO
    rw [if_pos h]
  have eb : b < x.length → ixD (.lst (tab x.length fun i => optD (w0 x r i))) (.int (b : Nat)) = some (optD (bO x r b)) := fun h => by
    rw [ix_tab _ h]
    unfold bO
    rw [if_pos h]
  have na : ¬ 0 < a → optD (some (b1 r)) = optD (aO x r a) := fun h => by
    unfold aO
    rw [if_neg h]
  have nb : ¬ b < x.length → optD (some (b1 r)) = optD (bO x r b) := fun h => by
    unfold bO
    rw [if_neg h]
  have q := eq_opt (aO x r a) (bO x r b)
  have s2 := sub_int (b : Nat) (a : Nat)
  have rp := rep_1 (v := optD (if aO x r a = bO x r b then aO x r a else some (b1 r))) (Nat.le_of_lt h1) (by omega : b ≤ 1000)
  have fc := fill_c (fun j => optD (f j)) (optD (if aO x r a = bO x r b then aO x r a else some (b1 r))) (Nat.le_of_lt h1) h2 hn
  have fo := fill_ok (fun j => optD (f j)) (optD (if aO x r a = bO x r b then aO x r a else some (b1 r))) (Nat.le_of_lt h1) h2
  have e1 : (tab x.length fun j => if a ≤ j ∧ j < b then optD (if aO x r a = bO x r b then aO x r a else some (b1 r)) else optD (f j)) = tab x.length fun j => optD (fillF (vW x r) f (a, b) j) := tab_congr fun j hj => by
    show _ = optD (if a ≤ j ∧ j < b then (if aO x r a = bO x r b then aO x r a else some (b1 r)) else f j)
    by_cases h : a ≤ j ∧ j < b
    · rw [if_pos h, if_pos h]
    · rw [if_neg h, if_neg h]
  rw [e1] at fo
  generalize (tab x.length fun j => optD (fillF (vW x r) f (a, b) j)) = T1 at *
  generalize (tab x.length fun j => optD (f j)) = T0 at *
  generalize (tab x.length fun i => optD (w0 x r i)) = W at *
  have d1 : decide ((0 : Int) < ((a : Nat) : Int)) = decide (0 < a) := by
    by_cases h : 0 < a
    · rw [decide_eq_true h, decide_eq_true (by omega)]
    · rw [decide_eq_false h, decide_eq_false (by omega)]
  have d2 : decide (((b : Nat) : Int) < ((x.length : Nat) : Int)) = decide (b < x.length) := by
    by_cases h : b < x.length
    · rw [decide_eq_true h, decide_eq_true (by omega)]
    · rw [decide_eq_false h, decide_eq_false (by omega)]
  rw [d1] at g1
  rw [d2] at l1
  by_cases c3 : aO x r a = bO x r b
  · rw [decide_eq_true c3] at q
    rw [if_pos c3] at rp fc fo
    by_cases c1 : 0 < a <;> by_cases c2 : b < x.length
    · have ea := ea c1
      have eb := eb c2
      rw [decide_eq_true c1] at g1
      rw [decide_eq_true c2] at l1
      generalize optD (aO x r a) = va at *
      generalize optD (bO x r b) = vb at *
      generalize ((b : Nat) : Int) - ((a : Nat) : Int) = B2 at *
      generalize ((a : Nat) : Int) - 1 = A1 at *
      generalize ((a : Nat) : Int) = A at *
      generalize ((b : Nat) : Int) = Bn at *
      generalize ((x.length : Nat) : Int) = L at *
      generalize List.replicate (b - a) va = Y at *
      simp only [b_directions_told_1, runF, gdO, finR, endF, allO, sSeq, sSet, setR, sOf, leak, mNextS, andThen, mVar, mC, slot, peek, peeks, nrm, O.pk, O.frz, mIf, mTB, mTru, mAnd, mOr, mNot, mOp1, mOp2, mOl1, mOl2, mTup, mLst, mLks, mDct, mDvs, mBi, mBl, mRs, mSm0, mSm1, mSl, mSlL, mPt, mIt, mItZ, zipR, mCall, asArgs, asArg, back, ofRes, mergeO, ofO, ofOS, sIf, sRet, sRetN, sPass, sExp, sAug, sUnp, sPar, sAsg2, sSto, sBrk, sCnt, sFor, sDrop, sMatch, mtL, mOs, setAll, sPut, mItK, mMut0, mMut1, wipeE, unwipe, lcEnd, mLc, mYes, mItS, mItR, mChain, mStar, mLstD, sSlSto, mCallV, mGet2, zipS, mBad, sBad, mNotV, mAndV, mOrV, Tg.put, putAll, List.map_cons, List.map_nil, List.replicate, List.cons_append, List.nil_append, List.getElem?_cons_zero, List.getElem?_cons_succ, Option.bind_some, List.set_cons_zero, List.set_cons_succ, List.take_succ_cons, List.take_zero, List.headD_cons, List.headD_nil, List.tail_cons, List.tail_nil, Option.map_some, Option.map_none, if_true, if_false, Bool.false_eq_true, ite_true, ite_false, Bool.not_true, Bool.not_false, Bool.true_and, Bool.false_and, List.contains, List.elem, List.append_nil, List.length_cons, List.length_nil, Nat.zero_add, Nat.reduceAdd, Nat.reduceLeDiff, lim, Nat.reduceBEq, beq_self_eq_true, Bool.and_self, g1, s1, l1, ln, ea, eb, q, s2, rp, fc, fo]
    · have ea := ea c1
      rw [nb c2] at i1
      rw [decide_eq_true c1] at g1
      rw [decide_eq_false c2] at l1
      generalize optD (aO x r a) = va at *
      generalize optD (bO x r b) = vb at *
      generalize ((b : Nat) : Int) - ((a : Nat) : Int) = B2 at *
      generalize ((a : Nat) : Int) - 1 = A1 at *
      generalize ((a : Nat) : Int) = A at *
      generalize ((b : Nat) : Int) = Bn at *
      generalize ((x.length : Nat) : Int) = L at *
      generalize List.replicate (b - a) va = Y at *
      simp only [b_directions_told_1, runF, gdO, finR, endF, allO, sSeq, sSet, setR, sOf, leak, mNextS, andThen, mVar, mC, slot, peek, peeks, nrm, O.pk, O.frz, mIf, mTB, mTru, mAnd, mOr, mNot, mOp1, mOp2, mOl1, mOl2, mTup, mLst, mLks, mDct, mDvs, mBi, mBl, mRs, mSm0, mSm1, mSl, mSlL, mPt, mIt, mItZ, zipR, mCall, asArgs, asArg, back, ofRes, mergeO, ofO, ofOS, sIf, sRet, sRetN, sPass, sExp, sAug, sUnp, sPar, sAsg2, sSto, sBrk, sCnt, sFor, sDrop, sMatch, mtL, mOs, setAll, sPut, mItK, mMut0, mMut1, wipeE, unwipe, lcEnd, mLc, mYes, mItS, mItR, mChain, mStar, mLstD, sSlSto, mCallV, mGet2, zipS, mBad, sBad, mNotV, mAndV, mOrV, Tg.put, putAll, List.map_cons, List.map_nil, List.replicate, List.cons_append, List.nil_append, List.getElem?_cons_zero, List.getElem?_cons_succ, Option.bind_some, List.set_cons_zero, List.set_cons_succ, List.take_succ_cons, List.take_zero, List.headD_cons, List.headD_nil, List.tail_cons, List.tail_nil, Option.map_some, Option.map_none, if_true, if_false, Bool.false_eq_true, ite_true, ite_false, Bool.not_true, Bool.not_false, Bool.true_and, Bool.false_and, List.contains, List.elem, List.append_nil, List.length_cons, List.length_nil, Nat.zero_add, Nat.reduceAdd, Nat.reduceLeDiff, lim, Nat.reduceBEq, beq_self_eq_true, Bool.and_self, g1, s1, l1, ln, ea, i1, q, s2, rp, fc, fo]
    · have eb := eb c2
      rw [na c1] at i1
      rw [decide_eq_false c1] at g1
      rw [decide_eq_true c2] at l1
      generalize optD (aO x r a) = va at *
      generalize optD (bO x r b) = vb at *
      generalize ((b : Nat) : Int) - ((a : Nat) : Int) = B2 at *
      generalize ((a : Nat) : Int) - 1 = A1 at *
      generalize ((a : Nat) : Int) = A at *
      generalize ((b : Nat) : Int) = Bn at *
      generalize ((x.length : Nat) : Int) = L at *
      generalize List.replicate (b - a) va = Y at *
      simp only [b_directions_told_1, runF, gdO, finR, endF, allO, sSeq, sSet, setR, sOf, leak, mNextS, andThen, mVar, mC, slot, peek, peeks, nrm, O.pk, O.frz, mIf, mTB, mTru, mAnd, mOr, mNot, mOp1, mOp2, mOl1, mOl2, mTup, mLst, mLks, mDct, mDvs, mBi, mBl, mRs, mSm0, mSm1, mSl, mSlL, mPt, mIt, mItZ, zipR, mCall, asArgs, asArg, back, ofRes, mergeO, ofO, ofOS, sIf, sRet, sRetN, sPass, sExp, sAug, sUnp, sPar, sAsg2, sSto, sBrk, sCnt, sFor, sDrop, sMatch, mtL, mOs, setAll, sPut, mItK, mMut0, mMut1, wipeE, unwipe, lcEnd, mLc, mYes, mItS, mItR, mChain, mStar, mLstD, sSlSto, mCallV, mGet2, zipS, mBad, sBad, mNotV, mAndV, mOrV, Tg.put, putAll, List.map_cons, List.map_nil, List.replicate, List.cons_append, List.nil_append, List.getElem?_cons_zero, List.getElem?_cons_succ, Option.bind_some, List.set_cons_zero, List.set_cons_succ, List.take_succ_cons, List.take_zero, List.headD_cons, List.headD_nil, List.tail_cons, List.tail_nil, Option.map_some, Option.map_none, if_true, if_false, Bool.false_eq_true, ite_true, ite_false, Bool.not_true, Bool.not_false, Bool.true_and, Bool.false_and, List.contains, List.elem, List.append_nil, List.length_cons, List.length_nil, Nat.zero_add, Nat.reduceAdd, Nat.reduceLeDiff, lim, Nat.reduceBEq, beq_self_eq_true, Bool.and_self, g1, s1, l1, ln, eb, i1, q, s2, rp, fc, fo]
    · have e3 := (nb c2).symm.trans (na c1)
      rw [e3] at q
      rw [na c1] at i1
      rw [decide_eq_false c1] at g1
      rw [decide_eq_false c2] at l1
      generalize optD (aO x r a) = va at *
      generalize ((b : Nat) : Int) - ((a : Nat) : Int) = B2 at *
      generalize ((a : Nat) : Int) - 1 = A1 at *
      generalize ((a : Nat) : Int) = A at *
      generalize ((b : Nat) : Int) = Bn at *
      generalize ((x.length : Nat) : Int) = L at *
      generalize List.replicate (b - a) va = Y at *
      simp only [b_directions_told_1, runF, gdO, finR, endF, allO, sSeq, sSet, setR, sOf, leak, mNextS, andThen, mVar, mC, slot, peek, peeks, nrm, O.pk, O.frz, mIf, mTB, mTru, mAnd, mOr, mNot, mOp1, mOp2, mOl1, mOl2, mTup, mLst, mLks, mDct, mDvs, mBi, mBl, mRs, mSm0, mSm1, mSl, mSlL, mPt, mIt, mItZ, zipR, mCall, asArgs, asArg, back, ofRes, mergeO, ofO, ofOS, sIf, sRet, sRetN, sPass, sExp, sAug, sUnp, sPar, sAsg2, sSto, sBrk, sCnt, sFor, sDrop, sMatch, mtL, mOs, setAll, sPut, mItK, mMut0, mMut1, wipeE, unwipe, lcEnd, mLc, mYes, mItS, mItR, mChain, mStar, mLstD, sSlSto, mCallV, mGet2, zipS, mBad, sBad, mNotV, mAndV, mOrV, Tg.put, putAll, List.map_cons, List.map_nil, List.replicate, List.cons_append, List.nil_append, List.getElem?_cons_zero, List.getElem?_cons_succ, Option.bind_some, List.set_cons_zero, List.set_cons_succ, List.take_succ_cons, List.take_zero, List.headD_cons, List.headD_nil, List.tail_cons, List.tail_nil, Option.map_some, Option.map_none, if_true, if_false, Bool.false_eq_true, ite_true, ite_false, Bool.not_true, Bool.not_false, Bool.true_and, Bool.false_and, List.contains, List.elem, List.append_nil, List.length_cons, List.length_nil, Nat.zero_add, Nat.reduceAdd, Nat.reduceLeDiff, lim, Nat.reduceBEq, beq_self_eq_true, Bool.and_self, g1, s1, l1, ln, i1, q, s2, rp, fc, fo]
  · rw [decide_eq_false c3] at q
    rw [if_neg c3] at rp fc fo
    by_cases c1 : 0 < a <;> by_cases c2 : b < x.length
    · have ea := ea c1
      have eb := eb c2
      rw [decide_eq_true c1] at g1
      rw [decide_eq_true c2] at l1
      generalize optD (aO x r a) = va at *
      generalize optD (bO x r b) = vb at *
      generalize optD (some (b1 r)) = vr at *
      generalize ((b : Nat) : Int) - ((a : Nat) : Int) = B2 at *
      generalize ((a : Nat) : Int) - 1 = A1 at *
      generalize ((a : Nat) : Int) = A at *
      generalize ((b : Nat) : Int) = Bn at *
      generalize ((x.length : Nat) : Int) = L at *
      generalize List.replicate (b - a) vr = Y at *
      simp only [b_directions_told_1, runF, gdO, finR, endF, allO, sSeq, sSet, setR, sOf, leak, mNextS, andThen, mVar, mC, slot, peek, peeks, nrm, O.pk, O.frz, mIf, mTB, mTru, mAnd, mOr, mNot, mOp1, mOp2, mOl1, mOl2, mTup, mLst, mLks, mDct, mDvs, mBi, mBl, mRs, mSm0, mSm1, mSl, mSlL, mPt, mIt, mItZ, zipR, mCall, asArgs, asArg, back, ofRes, mergeO, ofO, ofOS, sIf, sRet, sRetN, sPass, sExp, sAug, sUnp, sPar, sAsg2, sSto, sBrk, sCnt, sFor, sDrop, sMatch, mtL, mOs, setAll, sPut, mItK, mMut0, mMut1, wipeE, unwipe, lcEnd, mLc, mYes, mItS, mItR, mChain, mStar, mLstD, sSlSto, mCallV, mGet2, zipS, mBad, sBad, mNotV, mAndV, mOrV, Tg.put, putAll, List.map_cons, List.map_nil, List.replicate, List.cons_append, List.nil_append, List.getElem?_cons_zero, List.getElem?_cons_succ, Option.bind_some, List.set_cons_zero, List.set_cons_succ, List.take_succ_cons, List.take_zero, List.headD_cons, List.headD_nil, List.tail_cons, List.tail_nil, Option.map_some, Option.map_none, if_true, if_false, Bool.false_eq_true, ite_true, ite_false, Bool.not_true, Bool.not_false, Bool.true_and, Bool.false_and, List.contains, List.elem, List.append_nil, List.length_cons, List.length_nil, Nat.zero_add, Nat.reduceAdd, Nat.reduceLeDiff, lim, Nat.reduceBEq, beq_self_eq_true, Bool.and_self, g1, s1, l1, ln, ea, eb, i1, q, s2, rp, fc, fo]
    · have ea := ea c1
      rw [← nb c2] at q
      rw [decide_eq_true c1] at g1
      rw [decide_eq_false c2] at l1
      generalize optD (aO x r a) = va at *
      generalize optD (some (b1 r)) = vr at *
      generalize ((b : Nat) : Int) - ((a : Nat) : Int) = B2 at *
      generalize ((a : Nat) : Int) - 1 = A1 at *
      generalize ((a : Nat) : Int) = A at *
      generalize ((b : Nat) : Int) = Bn at *
      generalize ((x.length : Nat) : Int) = L at *
      generalize List.replicate (b - a) vr = Y at *
      simp only [b_directions_told_1, runF, gdO, finR, endF, allO, sSeq, sSet, setR, sOf, leak, mNextS, andThen, mVar, mC, slot, peek, peeks, nrm, O.pk, O.frz, mIf, mTB, mTru, mAnd, mOr, mNot, mOp1, mOp2, mOl1, mOl2, mTup, mLst, mLks, mDct, mDvs, mBi, mBl, mRs, mSm0, mSm1, mSl, mSlL, mPt, mIt, mItZ, zipR, mCall, asArgs, asArg, back, ofRes, mergeO, ofO, ofOS, sIf, sRet, sRetN, sPass, sExp, sAug, sUnp, sPar, sAsg2, sSto, sBrk, sCnt, sFor, sDrop, sMatch, mtL, mOs, setAll, sPut, mItK, mMut0, mMut1, wipeE, unwipe, lcEnd, mLc, mYes, mItS, mItR, mChain, mStar, mLstD, sSlSto, mCallV, mGet2, zipS, mBad, sBad, mNotV, mAndV, mOrV, Tg.put, putAll, List.map_cons, List.map_nil, List.replicate, List.cons_append, List.nil_append, List.getElem?_cons_zero, List.getElem?_cons_succ, Option.bind_some, List.set_cons_zero, List.set_cons_succ, List.take_succ_cons, List.take_zero, List.headD_cons, List.headD_nil, List.tail_cons, List.tail_nil, Option.map_some, Option.map_none, if_true, if_false, Bool.false_eq_true, ite_true, ite_false, Bool.not_true, Bool.not_false, Bool.true_and, Bool.false_and, List.contains, List.elem, List.append_nil, List.length_cons, List.length_nil, Nat.zero_add, Nat.reduceAdd, Nat.reduceLeDiff, lim, Nat.reduceBEq, beq_self_eq_true, Bool.and_self, g1, s1, l1, ln, ea, i1, q, s2, rp, fc, fo]
    · have eb := eb c2
      rw [← na c1] at q
      rw [decide_eq_false c1] at g1
      rw [decide_eq_true c2] at l1
      generalize optD (bO x r b) = vb at *
      generalize optD (some (b1 r)) = vr at *
      generalize ((b : Nat) : Int) - ((a : Nat) : Int) = B2 at *
      generalize ((a : Nat) : Int) - 1 = A1 at *
      generalize ((a : Nat) : Int) = A at *
      generalize ((b : Nat) : Int) = Bn at *
      generalize ((x.length : Nat) : Int) = L at *
      generalize List.replicate (b - a) vr = Y at *
      simp only [b_directions_told_1, runF, gdO, finR, endF, allO, sSeq, sSet, setR, sOf, leak, mNextS, andThen, mVar, mC, slot, peek, peeks, nrm, O.pk, O.frz, mIf, mTB, mTru, mAnd, mOr, mNot, mOp1, mOp2, mOl1, mOl2, mTup, mLst, mLks, mDct, mDvs, mBi, mBl, mRs, mSm0, mSm1, mSl, mSlL, mPt, mIt, mItZ, zipR, mCall, asArgs, asArg, back, ofRes, mergeO, ofO, ofOS, sIf, sRet, sRetN, sPass, sExp, sAug, sUnp, sPar, sAsg2, sSto, sBrk, sCnt, sFor, sDrop, sMatch, mtL, mOs, setAll, sPut, mItK, mMut0, mMut1, wipeE, unwipe, lcEnd, mLc, mYes, mItS, mItR, mChain, mStar, mLstD, sSlSto, mCallV, mGet2, zipS, mBad, sBad, mNotV, mAndV, mOrV, Tg.put, putAll, List.map_cons, List.map_nil, List.replicate, List.cons_append, List.nil_append, List.getElem?_cons_zero, List.getElem?_cons_succ, Option.bind_some, List.set_cons_zero, List.set_cons_succ, List.take_succ_cons, List.take_zero, List.headD_cons, List.headD_nil, List.tail_cons, List.tail_nil, Option.map_some, Option.map_none, if_true, if_false, Bool.false_eq_true, ite_true, ite_false, Bool.not_true, Bool.not_false, Bool.true_and, Bool.false_and, List.contains, List.elem, List.append_nil, List.length_cons, List.length_nil, Nat.zero_add, Nat.reduceAdd, Nat.reduceLeDiff, lim, Nat.reduceBEq, beq_self_eq_true, Bool.and_self, g1, s1, l1, ln, eb, i1, q, s2, rp, fc, fo]
    · refine absurd ?_ c3
      unfold aO bO
      rw [if_neg c1, if_neg c2]
theorem zip_tab (n : Nat) (f g : Nat → F.D) (e : Env) : zipS (.lst (tab n f)) (.lst (tab n g)) e = .ok ((List.range n).map fun i => F.D.tup [f i, g i]) e := by
  show (if (tab n f).length = (tab n g).length then Rs.ok (zipF (tab n f) (tab n g)) e else Rs.bad) = _
  rw [if_pos (by rw [tab_len, tab_len])]
  show Rs.ok (zipF ((List.range n).map f) ((List.range n).map g)) e = _
  rw [zip_same]
theorem z_ro (x : List Nat) (r : Bool) (hn : x.length ≤ 1000) : Z_directions_told [.sh (.lst (tab x.length fun j => encP (k2 x j))), .sh (.lst (tab x.length (bfD x))), .sh (.bl r)] = .rt (.fl (tab x.length fun j => optD (told x r j))) [.sh (.lst (tab x.length fun j => encP (k2 x j))), .sh (.lst (tab x.length (bfD x))), .sh (.bl r)] := by
  have l0 := fun K B => ro_loop0 x r hn K B
  have zs := zip_tab x.length (fun j => encP (k2 x j)) (bfD x)
  have zi := z_int (k := 1) (f := fun i => optD (w0 x r i)) (p := wP x r) hn (wP_out _ (Nat.le_refl _)) fun i hi => l1_ok x r i hi
  have lp := fun K B => for_fold (enc := prD) (as := runs (wP x r) (x.length + 1)) (t := .tp [(.nm 7), (.nm 8)]) (body := b_directions_told_1) (I := fun _ => True) (step := fillF (vW x r)) (s := w0 x r)
    (g := fun f => [some (.sh K), some (.sh B), some (.sh (.bl r)), some (.sh (.lst (tab x.length fun i => optD (w0 x r i)))), none, none, some (.fl (tab x.length fun j => optD (f j))), none, none, none, none]) (fun f ab hab _ => ⟨⟨_, rfl, ro_step x r hn f K B (runs_mem hab).1 (Nat.le_of_lt_succ (runs_mem hab).2)⟩, trivial⟩) trivial
  have lp : ∀ K B, forL (.tp [(.nm 7), (.nm 8)]) b_directions_told_1 ((runs (wP x r) (x.length + 1)).map prD) [some (.sh K), some (.sh B), some (.sh (.bl r)), some (.sh (.lst (tab x.length fun i => optD (w0 x r i)))), none, none, some (.fl (tab x.length fun j => optD (w0 x r j))), none, none, none, none] =
    .nx [some (.sh K), some (.sh B), some (.sh (.bl r)), some (.sh (.lst (tab x.length fun i => optD (w0 x r i)))), none, none, some (.fl (tab x.length fun j => optD (told x r j))), none, none, none, none] := fun K B => (lp K B).1
  have ll : listL [.lst (tab x.length fun j => optD (w0 x r j))] = some (tab x.length fun j => optD (w0 x r j)) := rfl
  have il := itL_x ((runs (wP x r) (x.length + 1)).map prD)
  generalize (tab x.length fun j => encP (k2 x j)) = K at *
  generalize tab x.length (bfD x) = B at *
  generalize ((List.range x.length).map fun i => F.D.tup [encP (k2 x i), bfD x i]) = I0 at *
  generalize (tab x.length fun j => optD (told x r j)) = T2 at *
  generalize (tab x.length fun j => optD (w0 x r j)) = T1 at *
  generalize (runs (wP x r) (x.length + 1)).map prD = R at *
  simp only [zipS] at zs
  simp only [Z_directions_told, m_directions_told, runF, gdO, finR, endF, allO, sSeq, sSet, setR, sOf, leak, mNextS, andThen, mVar, mC, slot, peek, peeks, nrm, O.pk, O.frz, mIf, mTB, mTru, mAnd, mOr, mNot, mOp1, mOp2, mOl1, mOl2, mTup, mLst, mLks, mDct, mDvs, mBi, mBl, mRs, mSm0, mSm1, mSl, mSlL, mPt, mIt, mItZ, zipR, mCall, asArgs, asArg, back, ofRes, mergeO, ofO, ofOS, sIf, sRet, sRetN, sPass, sExp, sAug, sUnp, sPar, sAsg2, sSto, sBrk, sCnt, sFor, sDrop, sMatch, mtL, mOs, setAll, sPut, mItK, mMut0, mMut1, wipeE, unwipe, lcEnd, mLc, mYes, mItS, mItR, mChain, mStar, mLstD, sSlSto, mCallV, mGet2, zipS, mBad, sBad, mNotV, mAndV, mOrV, Tg.put, putAll, List.map_cons, List.map_nil, List.replicate, List.cons_append, List.nil_append, List.getElem?_cons_zero, List.getElem?_cons_succ, Option.bind_some, List.set_cons_zero, List.set_cons_succ, List.take_succ_cons, List.take_zero, List.headD_cons, List.headD_nil, List.tail_cons, List.tail_nil, Option.map_some, Option.map_none, if_true, if_false, Bool.false_eq_true, ite_true, ite_false, Bool.not_true, Bool.not_false, Bool.true_and, Bool.false_and, List.contains, List.elem, List.append_nil, List.length_cons, List.length_nil, Nat.zero_add, Nat.reduceAdd, Nat.reduceLeDiff, lim, Nat.reduceBEq, beq_self_eq_true, Bool.and_self, zs, l0, ll, zi, il, lp]
/-! ### levels -/
def lev (x : List Nat) (r : Bool) (i : Nat) : F.D := if r = true then .int (b1 (dig (k2 x i) || decide (told x r i = some 0)) : Nat) else if dig (k2 x i) = true ∧ told x r i = some 1 then .int 2 else optD (told x r i)
theorem int_b1' (b : Bool) : intD [.bl b] = some (.int (b1 b : Nat)) := by cases b <;> rfl
theorem rs_loop (x : List Nat) (r : Bool) (hn : x.length ≤ 1000) (B K : F.D) (e0 : Option O) : forL (.tp [(.nm 5), (.nm 6)]) b_resolved_0 ((List.range x.length).map fun i => F.D.tup [encP (k2 x i), optD (told x r i)]) [e0, some (.sh (.bl r)), some (.sh B), some (.sh K), some (.fl []), none, none] =
    .nx [e0, some (.sh (.bl r)), some (.sh B), some (.sh K), some (.fl (tab x.length (lev x r))), none, none] := by
  refine for_rng (enc := fun i => F.D.tup [encP (k2 x i), optD (told x r i)]) (g := fun i => [e0, some (.sh (.bl r)), some (.sh B), some (.sh K), some (.fl (tab i (lev x r))), none, none]) fun i hi => ?_
  refine ⟨_, rfl, ?_⟩
  have ap := app_ok (tab i (lev x r)) (lev x r i) (by rw [tab_len]; omega)
  rw [← tab_succ] at ap
  have q1 := in_dig (k2 x i)
  have q2 : eqD (optD (told x r i)) (.int 0) = _ := eq_opt (told x r i) (some 0)
  have q3 : eqD (optD (told x r i)) (.int 1) = _ := eq_opt (told x r i) (some 1)
  have t := int_b1' (dig (k2 x i) || decide (told x r i = some 0))
  generalize tab (i + 1) (lev x r) = T1 at *
  generalize tab i (lev x r) = T0 at *
  unfold lev at ap
  generalize encP (k2 x i) = k at *
  cases r with
  | true =>
    rw [if_pos rfl] at ap
    have tr : truD (.bl true) = some true := rfl
    cases hd : dig (k2 x i) with
    | true =>
      rw [hd, Bool.true_or] at t ap
      rw [hd] at q1
      generalize optD (told x true i) = v at *
      generalize ((b1 true : Nat) : Int) = z at *
      simp only [b_resolved_0, runF, gdO, finR, endF, allO, sSeq, sSet, setR, sOf, leak, mNextS, andThen, mVar, mC, slot, peek, peeks, nrm, O.pk, O.frz, mIf, mTB, mTru, mAnd, mOr, mNot, mOp1, mOp2, mOl1, mOl2, mTup, mLst, mLks, mDct, mDvs, mBi, mBl, mRs, mSm0, mSm1, mSl, mSlL, mPt, mIt, mItZ, zipR, mCall, asArgs, asArg, back, ofRes, mergeO, ofO, ofOS, sIf, sRet, sRetN, sPass, sExp, sAug, sUnp, sPar, sAsg2, sSto, sBrk, sCnt, sFor, sDrop, sMatch, mtL, mOs, setAll, sPut, mItK, mMut0, mMut1, wipeE, unwipe, lcEnd, mLc, mYes, mItS, mItR, mChain, mStar, mLstD, sSlSto, mCallV, mGet2, zipS, mBad, sBad, mNotV, mAndV, mOrV, Tg.put, putAll, List.map_cons, List.map_nil, List.replicate, List.cons_append, List.nil_append, List.getElem?_cons_zero, List.getElem?_cons_succ, Option.bind_some, List.set_cons_zero, List.set_cons_succ, List.take_succ_cons, List.take_zero, List.headD_cons, List.headD_nil, List.tail_cons, List.tail_nil, Option.map_some, Option.map_none, if_true, if_false, Bool.false_eq_true, ite_true, ite_false, Bool.not_true, Bool.not_false, Bool.true_and, Bool.false_and, List.contains, List.elem, List.append_nil, List.length_cons, List.length_nil, Nat.zero_add, Nat.reduceAdd, Nat.reduceLeDiff, lim, Nat.reduceBEq, beq_self_eq_true, Bool.and_self, mTru, tr, q1, t, ap]
    | false =>
      rw [hd, Bool.false_or] at t ap
      rw [hd] at q1
      generalize optD (told x true i) = v at *
      generalize decide (told x true i = some 0) = d at *
      generalize ((b1 d : Nat) : Int) = z at *
      simp only [b_resolved_0, runF, gdO, finR, endF, allO, sSeq, sSet, setR, sOf, leak, mNextS, andThen, mVar, mC, slot, peek, peeks, nrm, O.pk, O.frz, mIf, mTB, mTru, mAnd, mOr, mNot, mOp1, mOp2, mOl1, mOl2, mTup, mLst, mLks, mDct, mDvs, mBi, mBl, mRs, mSm0, mSm1, mSl, mSlL, mPt, mIt, mItZ, zipR, mCall, asArgs, asArg, back, ofRes, mergeO, ofO, ofOS, sIf, sRet, sRetN, sPass, sExp, sAug, sUnp, sPar, sAsg2, sSto, sBrk, sCnt, sFor, sDrop, sMatch, mtL, mOs, setAll, sPut, mItK, mMut0, mMut1, wipeE, unwipe, lcEnd, mLc, mYes, mItS, mItR, mChain, mStar, mLstD, sSlSto, mCallV, mGet2, zipS, mBad, sBad, mNotV, mAndV, mOrV, Tg.put, putAll, List.map_cons, List.map_nil, List.replicate, List.cons_append, List.nil_append, List.getElem?_cons_zero, List.getElem?_cons_succ, Option.bind_some, List.set_cons_zero, List.set_cons_succ, List.take_succ_cons, List.take_zero, List.headD_cons, List.headD_nil, List.tail_cons, List.tail_nil, Option.map_some, Option.map_none, if_true, if_false, Bool.false_eq_true, ite_true, ite_false, Bool.not_true, Bool.not_false, Bool.true_and, Bool.false_and, List.contains, List.elem, List.append_nil, List.length_cons, List.length_nil, Nat.zero_add, Nat.reduceAdd, Nat.reduceLeDiff, lim, Nat.reduceBEq, beq_self_eq_true, Bool.and_self, mTru, tr, q1, q2, t, ap]
  | false =>
    rw [if_neg (by decide)] at ap
    have tr : truD (.bl false) = some false := rfl
    cases hd : dig (k2 x i) with
    | true =>
      rw [hd] at q1 ap
      by_cases h : told x false i = some 1
      · rw [if_pos ⟨rfl, h⟩] at ap
        rw [decide_eq_true h] at q3
        generalize optD (told x false i) = v at *
        simp only [b_resolved_0, runF, gdO, finR, endF, allO, sSeq, sSet, setR, sOf, leak, mNextS, andThen, mVar, mC, slot, peek, peeks, nrm, O.pk, O.frz, mIf, mTB, mTru, mAnd, mOr, mNot, mOp1, mOp2, mOl1, mOl2, mTup, mLst, mLks, mDct, mDvs, mBi, mBl, mRs, mSm0, mSm1, mSl, mSlL, mPt, mIt, mItZ, zipR, mCall, asArgs, asArg, back, ofRes, mergeO, ofO, ofOS, sIf, sRet, sRetN, sPass, sExp, sAug, sUnp, sPar, sAsg2, sSto, sBrk, sCnt, sFor, sDrop, sMatch, mtL, mOs, setAll, sPut, mItK, mMut0, mMut1, wipeE, unwipe, lcEnd, mLc, mYes, mItS, mItR, mChain, mStar, mLstD, sSlSto, mCallV, mGet2, zipS, mBad, sBad, mNotV, mAndV, mOrV, Tg.put, putAll, List.map_cons, List.map_nil, List.replicate, List.cons_append, List.nil_append, List.getElem?_cons_zero, List.getElem?_cons_succ, Option.bind_some, List.set_cons_zero, List.set_cons_succ, List.take_succ_cons, List.take_zero, List.headD_cons, List.headD_nil, List.tail_cons, List.tail_nil, Option.map_some, Option.map_none, if_true, if_false, Bool.false_eq_true, ite_true, ite_false, Bool.not_true, Bool.not_false, Bool.true_and, Bool.false_and, List.contains, List.elem, List.append_nil, List.length_cons, List.length_nil, Nat.zero_add, Nat.reduceAdd, Nat.reduceLeDiff, lim, Nat.reduceBEq, beq_self_eq_true, Bool.and_self, mTru, tr, q1, q3, ap]
      · rw [if_neg fun z => h z.2] at ap
        rw [decide_eq_false h] at q3
        generalize optD (told x false i) = v at *
        simp only [b_resolved_0, runF, gdO, finR, endF, allO, sSeq, sSet, setR, sOf, leak, mNextS, andThen, mVar, mC, slot, peek, peeks, nrm, O.pk, O.frz, mIf, mTB, mTru, mAnd, mOr, mNot, mOp1, mOp2, mOl1, mOl2, mTup, mLst, mLks, mDct, mDvs, mBi, mBl, mRs, mSm0, mSm1, mSl, mSlL, mPt, mIt, mItZ, zipR, mCall, asArgs, asArg, back, ofRes, mergeO, ofO, ofOS, sIf, sRet, sRetN, sPass, sExp, sAug, sUnp, sPar, sAsg2, sSto, sBrk, sCnt, sFor, sDrop, sMatch, mtL, mOs, setAll, sPut, mItK, mMut0, mMut1, wipeE, unwipe, lcEnd, mLc, mYes, mItS, mItR, mChain, mStar, mLstD, sSlSto, mCallV, mGet2, zipS, mBad, sBad, mNotV, mAndV, mOrV, Tg.put, putAll, List.map_cons, List.map_nil, List.replicate, List.cons_append, List.nil_append, List.getElem?_cons_zero, List.getElem?_cons_succ, Option.bind_some, List.set_cons_zero, List.set_cons_succ, List.take_succ_cons, List.take_zero, List.headD_cons, List.headD_nil, List.tail_cons, List.tail_nil, Option.map_some, Option.map_none, if_true, if_false, Bool.false_eq_true, ite_true, ite_false, Bool.not_true, Bool.not_false, Bool.true_and, Bool.false_and, List.contains, List.elem, List.append_nil, List.length_cons, List.length_nil, Nat.zero_add, Nat.reduceAdd, Nat.reduceLeDiff, lim, Nat.reduceBEq, beq_self_eq_true, Bool.and_self, mTru, tr, q1, q3, ap]
    | false =>
      rw [hd] at q1 ap
      rw [if_neg fun z => by cases z.1] at ap
      generalize optD (told x false i) = v at *
      simp only [b_resolved_0, runF, gdO, finR, endF, allO, sSeq, sSet, setR, sOf, leak, mNextS, andThen, mVar, mC, slot, peek, peeks, nrm, O.pk, O.frz, mIf, mTB, mTru, mAnd, mOr, mNot, mOp1, mOp2, mOl1, mOl2, mTup, mLst, mLks, mDct, mDvs, mBi, mBl, mRs, mSm0, mSm1, mSl, mSlL, mPt, mIt, mItZ, zipR, mCall, asArgs, asArg, back, ofRes, mergeO, ofO, ofOS, sIf, sRet, sRetN, sPass, sExp, sAug, sUnp, sPar, sAsg2, sSto, sBrk, sCnt, sFor, sDrop, sMatch, mtL, mOs, setAll, sPut, mItK, mMut0, mMut1, wipeE, unwipe, lcEnd, mLc, mYes, mItS, mItR, mChain, mStar, mLstD, sSlSto, mCallV, mGet2, zipS, mBad, sBad, mNotV, mAndV, mOrV, Tg.put, putAll, List.map_cons, List.map_nil, List.replicate, List.cons_append, List.nil_append, List.getElem?_cons_zero, List.getElem?_cons_succ, Option.bind_some, List.set_cons_zero, List.set_cons_succ, List.take_succ_cons, List.take_zero, List.headD_cons, List.headD_nil, List.tail_cons, List.tail_nil, Option.map_some, Option.map_none, if_true, if_false, Bool.false_eq_true, ite_true, ite_false, Bool.not_true, Bool.not_false, Bool.true_and, Bool.false_and, List.contains, List.elem, List.append_nil, List.length_cons, List.length_nil, Nat.zero_add, Nat.reduceAdd, Nat.reduceLeDiff, lim, Nat.reduceBEq, beq_self_eq_true, Bool.and_self, mTru, tr, q1, ap]
theorem tup_l (l : List F.D) (h : l.length ≤ 16777216) : tupLD [.lst l] = some (.tup l) := by
  first
    | rfl
    | exact if_pos h
theorem z_rs (x : List Nat) (r : Bool) (hn : x.length ≤ 1000) : Z_resolved [.sh (.str x), .sh (.bl r)] = .rt (.sh (.tup (tab x.length (lev x r)))) [.sh (.str x), .sh (.bl r)] := by
  have z1 := z_sb x hn
  have z2 := z_dt x hn
  have z3 := z_sj x hn
  have z4 := z_ro x r hn
  have l := fun B K => rs_loop x r hn B K (some (.sh (.str x)))
  have zs := zip_tab x.length (fun j => encP (k2 x j)) (fun j => optD (told x r j))
  have tl := tup_l (tab x.length (lev x r)) (by rw [tab_len]; omega)
  have z3 : Z_signs_joined [.sh (.lst (tab x.length fun j => encP (k1 x j)))] = .rt (.fl (tab x.length fun j => encP (k2 x j))) [.sh (.lst (tab x.length fun j => encP (k1 x j)))] := z3
  generalize (tab x.length fun j => encP (k2 x j)) = K at *
  generalize (tab x.length fun j => encP (k1 x j)) = K1 at *
  generalize tab x.length (bfD x) = B at *
  generalize ((List.range x.length).map fun i => F.D.tup [encP (k2 x i), optD (told x r i)]) = I0 at *
  generalize (tab x.length fun j => optD (told x r j)) = W at *
  generalize tab x.length (lev x r) = T at *
  simp only [zipS] at zs
  simp only [Z_resolved, m_resolved, runF, gdO, finR, endF, allO, sSeq, sSet, setR, sOf, leak, mNextS, andThen, mVar, mC, slot, peek, peeks, nrm, O.pk, O.frz, mIf, mTB, mTru, mAnd, mOr, mNot, mOp1, mOp2, mOl1, mOl2, mTup, mLst, mLks, mDct, mDvs, mBi, mBl, mRs, mSm0, mSm1, mSl, mSlL, mPt, mIt, mItZ, zipR, mCall, asArgs, asArg, back, ofRes, mergeO, ofO, ofOS, sIf, sRet, sRetN, sPass, sExp, sAug, sUnp, sPar, sAsg2, sSto, sBrk, sCnt, sFor, sDrop, sMatch, mtL, mOs, setAll, sPut, mItK, mMut0, mMut1, wipeE, unwipe, lcEnd, mLc, mYes, mItS, mItR, mChain, mStar, mLstD, sSlSto, mCallV, mGet2, zipS, mBad, sBad, mNotV, mAndV, mOrV, Tg.put, putAll, List.map_cons, List.map_nil, List.replicate, List.cons_append, List.nil_append, List.getElem?_cons_zero, List.getElem?_cons_succ, Option.bind_some, List.set_cons_zero, List.set_cons_succ, List.take_succ_cons, List.take_zero, List.headD_cons, List.headD_nil, List.tail_cons, List.tail_nil, Option.map_some, Option.map_none, if_true, if_false, Bool.false_eq_true, ite_true, ite_false, Bool.not_true, Bool.not_false, Bool.true_and, Bool.false_and, List.contains, List.elem, List.append_nil, List.length_cons, List.length_nil, Nat.zero_add, Nat.reduceAdd, Nat.reduceLeDiff, lim, Nat.reduceBEq, beq_self_eq_true, Bool.and_self, z1, z2, z3, z4, zs, l, tl]
end F
end

section
set_option linter.all false
set_option autoImplicit false
set_option maxRecDepth 100000
set_option maxHeartbeats 1000000
/-! the law's rules 1 to 4 -/
namespace F
abbrev cl7 : List Nat := [76, 82, 65, 68, 83, 84, 78]
def encL : Kd → F.D
  | .c k => chD k
  | .pl => .str [100]
  | .ea => .str [101]
def stC (x : List Nat) (r : Bool) (i : Nat) : Nat := (lastS x i).getD (if r = true then 82 else 76)
def stL (x : List Nat) (r : Bool) (i : Nat) : F.D := chD (stC x r i)
theorem eq_st (x : List Nat) (r : Bool) (i : Nat) : eqD (stL x r i) (.str [65]) = some (.bl (decide (lastS x i = some 65))) := by
  unfold stL stC
  rw [eq_ch]
  cases lastS x i with
  | none => cases r <;> rfl
  | some c =>
    show some (F.D.bl (decide (c = 65))) = _
    simp
theorem ld_loop0 (x : List Nat) (r : Bool) : forL (.tp [(.nm 3), (.nm 4)]) b__law_digits_0 ((List.range x.length).map fun i => F.D.tup [.int (i : Nat), chD (gx x i)]) [some (.sh (.str x)), some (.sh (.lst (tab x.length (stL x r)))), some (.fl (tab x.length (kA encL x 0))), none, none, none, none, none] =
    .nx [some (.sh (.str x)), some (.sh (.lst (tab x.length (stL x r)))), some (.fl (tab x.length (kA encL x x.length))), none, none, none, none, none] := by
  refine for_rng (enc := fun i => F.D.tup [.int (i : Nat), chD (gx x i)]) (g := fun i => [some (.sh (.str x)), some (.sh (.lst (tab x.length (stL x r)))), some (.fl (tab x.length (kA encL x i))), none, none, none, none, none]) fun i hi => ?_
  refine ⟨_, rfl, ?_⟩
  have q := eq_ch (gx x i) 68
  have b := ix_tab (stL x r) hi
  have b2 := eq_st x r i
  have ii := ixI_tab (kA encL x i) hi
  by_cases h : gx x i = 68
  · rw [decide_eq_true h] at q
    by_cases h2 : lastS x i = some 65
    · rw [decide_eq_true h2] at b2
      have st := set_tab (kA encL x i) (.str [101]) hi
      rw [kA_up x hi (show encL (k0 x i) = .str [101] by rw [k0_A h h2]; rfl)] at st
      generalize tab x.length (kA encL x (i + 1)) = T1 at *
      generalize tab x.length (kA encL x i) = T0 at *
      generalize tab x.length (stL x r) = B at *
      generalize stL x r i = B0 at *
      generalize chD (gx x i) = C at *
      generalize ((i : Nat) : Int) = I at *
      simp only [b__law_digits_0, runF, gdO, finR, endF, allO, sSeq, sSet, setR, sOf, leak, mNextS, andThen, mVar, mC, slot, peek, peeks, nrm, O.pk, O.frz, mIf, mTB, mTru, mAnd, mOr, mNot, mOp1, mOp2, mOl1, mOl2, mTup, mLst, mLks, mDct, mDvs, mBi, mBl, mRs, mSm0, mSm1, mSl, mSlL, mPt, mIt, mItZ, zipR, mCall, asArgs, asArg, back, ofRes, mergeO, ofO, ofOS, sIf, sRet, sRetN, sPass, sExp, sAug, sUnp, sPar, sAsg2, sSto, sBrk, sCnt, sFor, sDrop, sMatch, mtL, mOs, setAll, sPut, mItK, mMut0, mMut1, wipeE, unwipe, lcEnd, mLc, mYes, mItS, mItR, mChain, mStar, mLstD, sSlSto, mCallV, mGet2, zipS, mBad, sBad, mNotV, mAndV, mOrV, Tg.put, putAll, List.map_cons, List.map_nil, List.replicate, List.cons_append, List.nil_append, List.getElem?_cons_zero, List.getElem?_cons_succ, Option.bind_some, List.set_cons_zero, List.set_cons_succ, List.take_succ_cons, List.take_zero, List.headD_cons, List.headD_nil, List.tail_cons, List.tail_nil, Option.map_some, Option.map_none, if_true, if_false, Bool.false_eq_true, ite_true, ite_false, Bool.not_true, Bool.not_false, Bool.true_and, Bool.false_and, List.contains, List.elem, List.append_nil, List.length_cons, List.length_nil, Nat.zero_add, Nat.reduceAdd, Nat.reduceLeDiff, lim, Nat.reduceBEq, beq_self_eq_true, Bool.and_self, q, b, b2, ii, st]
    · rw [decide_eq_false h2] at b2
      have st := set_tab (kA encL x i) (.str [100]) hi
      rw [kA_up x hi (show encL (k0 x i) = .str [100] by rw [k0_B h h2]; rfl)] at st
      generalize tab x.length (kA encL x (i + 1)) = T1 at *
      generalize tab x.length (kA encL x i) = T0 at *
      generalize tab x.length (stL x r) = B at *
      generalize stL x r i = B0 at *
      generalize chD (gx x i) = C at *
      generalize ((i : Nat) : Int) = I at *
      simp only [b__law_digits_0, runF, gdO, finR, endF, allO, sSeq, sSet, setR, sOf, leak, mNextS, andThen, mVar, mC, slot, peek, peeks, nrm, O.pk, O.frz, mIf, mTB, mTru, mAnd, mOr, mNot, mOp1, mOp2, mOl1, mOl2, mTup, mLst, mLks, mDct, mDvs, mBi, mBl, mRs, mSm0, mSm1, mSl, mSlL, mPt, mIt, mItZ, zipR, mCall, asArgs, asArg, back, ofRes, mergeO, ofO, ofOS, sIf, sRet, sRetN, sPass, sExp, sAug, sUnp, sPar, sAsg2, sSto, sBrk, sCnt, sFor, sDrop, sMatch, mtL, mOs, setAll, sPut, mItK, mMut0, mMut1, wipeE, unwipe, lcEnd, mLc, mYes, mItS, mItR, mChain, mStar, mLstD, sSlSto, mCallV, mGet2, zipS, mBad, sBad, mNotV, mAndV, mOrV, Tg.put, putAll, List.map_cons, List.map_nil, List.replicate, List.cons_append, List.nil_append, List.getElem?_cons_zero, List.getElem?_cons_succ, Option.bind_some, List.set_cons_zero, List.set_cons_succ, List.take_succ_cons, List.take_zero, List.headD_cons, List.headD_nil, List.tail_cons, List.tail_nil, Option.map_some, Option.map_none, if_true, if_false, Bool.false_eq_true, ite_true, ite_false, Bool.not_true, Bool.not_false, Bool.true_and, Bool.false_and, List.contains, List.elem, List.append_nil, List.length_cons, List.length_nil, Nat.zero_add, Nat.reduceAdd, Nat.reduceLeDiff, lim, Nat.reduceBEq, beq_self_eq_true, Bool.and_self, q, b, b2, ii, st]
  · rw [decide_eq_false h] at q
    have e : tab x.length (kA encL x i) = tab x.length (kA encL x (i + 1)) := kA_no x hi (by rw [k0_C h]; rfl)
    rw [e]
    generalize tab x.length (kA encL x (i + 1)) = T1 at *
    generalize tab x.length (stL x r) = B at *
    generalize stL x r i = B0 at *
    generalize chD (gx x i) = C at *
    generalize ((i : Nat) : Int) = I at *
    simp only [b__law_digits_0, runF, gdO, finR, endF, allO, sSeq, sSet, setR, sOf, leak, mNextS, andThen, mVar, mC, slot, peek, peeks, nrm, O.pk, O.frz, mIf, mTB, mTru, mAnd, mOr, mNot, mOp1, mOp2, mOl1, mOl2, mTup, mLst, mLks, mDct, mDvs, mBi, mBl, mRs, mSm0, mSm1, mSl, mSlL, mPt, mIt, mItZ, zipR, mCall, asArgs, asArg, back, ofRes, mergeO, ofO, ofOS, sIf, sRet, sRetN, sPass, sExp, sAug, sUnp, sPar, sAsg2, sSto, sBrk, sCnt, sFor, sDrop, sMatch, mtL, mOs, setAll, sPut, mItK, mMut0, mMut1, wipeE, unwipe, lcEnd, mLc, mYes, mItS, mItR, mChain, mStar, mLstD, sSlSto, mCallV, mGet2, zipS, mBad, sBad, mNotV, mAndV, mOrV, Tg.put, putAll, List.map_cons, List.map_nil, List.replicate, List.cons_append, List.nil_append, List.getElem?_cons_zero, List.getElem?_cons_succ, Option.bind_some, List.set_cons_zero, List.set_cons_succ, List.take_succ_cons, List.take_zero, List.headD_cons, List.headD_nil, List.tail_cons, List.tail_nil, Option.map_some, Option.map_none, if_true, if_false, Bool.false_eq_true, ite_true, ite_false, Bool.not_true, Bool.not_false, Bool.true_and, Bool.false_and, List.contains, List.elem, List.append_nil, List.length_cons, List.length_nil, Nat.zero_add, Nat.reduceAdd, Nat.reduceLeDiff, lim, Nat.reduceBEq, beq_self_eq_true, Bool.and_self, q]
theorem ld_loop1 (x : List Nat) (B : F.D) : forL (.nm 3) b__law_digits_1 ((List.range' 1 (x.length - 2)).map fun i => F.D.int (i : Nat)) [some (.sh (.str x)), some (.sh B), some (.fl (tab x.length (kB encL x 1))), none, none, none, none, none] =
    .nx [some (.sh (.str x)), some (.sh B), some (.fl (tab x.length (kB encL x (1 + (x.length - 2))))), none, none, none, none, none] := by
  refine for_rng2 (enc := fun i => F.D.int (i : Nat)) (g := fun i => [some (.sh (.str x)), some (.sh B), some (.fl (tab x.length (kB encL x i))), none, none, none, none, none]) fun i h1 h2 => ?_
  refine ⟨_, rfl, ?_⟩
  have hi : i < x.length := by omega
  have a1 := ix_x hi
  have a2 := ix_xm (x := x) (i := i) (by omega) (by omega)
  have a3 := ix_xp (x := x) (i := i) (by omega)
  have s1 := sub_int (i : Nat) 1
  have s2 := add_int (i : Nat) 1
  have q1 := eq_ch (gx x i) 83
  have q2 := eq_ch (gx x (i - 1)) 68
  have q3 := eq_ch (gx x (i + 1)) 68
  have kp := ix_tabP (kB encL x i) (i := i) (n := x.length) (by omega) (by omega)
  have ii := ixI_tab (kB encL x i) hi
  by_cases c1 : gx x i = 83
  case neg =>
    rw [decide_eq_false c1] at q1
    rw [kB_no (E := encL) x (n := x.length) (show sj x i = false by unfold sj; exact decide_eq_false fun z => c1 z.1)]
    generalize tab x.length (kB encL x (i + 1)) = T1 at *
    generalize chD (gx x i) = C at *
    generalize ((i : Nat) : Int) = I at *
    simp only [b__law_digits_1, runF, gdO, finR, endF, allO, sSeq, sSet, setR, sOf, leak, mNextS, andThen, mVar, mC, slot, peek, peeks, nrm, O.pk, O.frz, mIf, mTB, mTru, mAnd, mOr, mNot, mOp1, mOp2, mOl1, mOl2, mTup, mLst, mLks, mDct, mDvs, mBi, mBl, mRs, mSm0, mSm1, mSl, mSlL, mPt, mIt, mItZ, zipR, mCall, asArgs, asArg, back, ofRes, mergeO, ofO, ofOS, sIf, sRet, sRetN, sPass, sExp, sAug, sUnp, sPar, sAsg2, sSto, sBrk, sCnt, sFor, sDrop, sMatch, mtL, mOs, setAll, sPut, mItK, mMut0, mMut1, wipeE, unwipe, lcEnd, mLc, mYes, mItS, mItR, mChain, mStar, mLstD, sSlSto, mCallV, mGet2, zipS, mBad, sBad, mNotV, mAndV, mOrV, Tg.put, putAll, List.map_cons, List.map_nil, List.replicate, List.cons_append, List.nil_append, List.getElem?_cons_zero, List.getElem?_cons_succ, Option.bind_some, List.set_cons_zero, List.set_cons_succ, List.take_succ_cons, List.take_zero, List.headD_cons, List.headD_nil, List.tail_cons, List.tail_nil, Option.map_some, Option.map_none, if_true, if_false, Bool.false_eq_true, ite_true, ite_false, Bool.not_true, Bool.not_false, Bool.true_and, Bool.false_and, List.contains, List.elem, List.append_nil, List.length_cons, List.length_nil, Nat.zero_add, Nat.reduceAdd, Nat.reduceLeDiff, lim, Nat.reduceBEq, beq_self_eq_true, Bool.and_self, a1, q1]
  rw [decide_eq_true c1] at q1
  by_cases c2 : gx x (i - 1) = 68
  case neg =>
    rw [decide_eq_false c2] at q2
    rw [kB_no (E := encL) x (n := x.length) (show sj x i = false by unfold sj; exact decide_eq_false fun z => c2 z.2.2.2.1)]
    generalize tab x.length (kB encL x (i + 1)) = T1 at *
    generalize chD (gx x i) = C at *
    generalize chD (gx x (i - 1)) = C1 at *
    generalize chD (gx x (i + 1)) = C2 at *
    generalize ((i : Nat) : Int) - 1 = I1 at *
    generalize ((i : Nat) : Int) + 1 = I2 at *
    generalize ((i : Nat) : Int) = I at *
    simp only [b__law_digits_1, runF, gdO, finR, endF, allO, sSeq, sSet, setR, sOf, leak, mNextS, andThen, mVar, mC, slot, peek, peeks, nrm, O.pk, O.frz, mIf, mTB, mTru, mAnd, mOr, mNot, mOp1, mOp2, mOl1, mOl2, mTup, mLst, mLks, mDct, mDvs, mBi, mBl, mRs, mSm0, mSm1, mSl, mSlL, mPt, mIt, mItZ, zipR, mCall, asArgs, asArg, back, ofRes, mergeO, ofO, ofOS, sIf, sRet, sRetN, sPass, sExp, sAug, sUnp, sPar, sAsg2, sSto, sBrk, sCnt, sFor, sDrop, sMatch, mtL, mOs, setAll, sPut, mItK, mMut0, mMut1, wipeE, unwipe, lcEnd, mLc, mYes, mItS, mItR, mChain, mStar, mLstD, sSlSto, mCallV, mGet2, zipS, mBad, sBad, mNotV, mAndV, mOrV, Tg.put, putAll, List.map_cons, List.map_nil, List.replicate, List.cons_append, List.nil_append, List.getElem?_cons_zero, List.getElem?_cons_succ, Option.bind_some, List.set_cons_zero, List.set_cons_succ, List.take_succ_cons, List.take_zero, List.headD_cons, List.headD_nil, List.tail_cons, List.tail_nil, Option.map_some, Option.map_none, if_true, if_false, Bool.false_eq_true, ite_true, ite_false, Bool.not_true, Bool.not_false, Bool.true_and, Bool.false_and, List.contains, List.elem, List.append_nil, List.length_cons, List.length_nil, Nat.zero_add, Nat.reduceAdd, Nat.reduceLeDiff, lim, Nat.reduceBEq, beq_self_eq_true, Bool.and_self, a1, q1, a2, a3, s1, s2, q2]
  rw [decide_eq_true c2] at q2
  by_cases c3 : gx x (i + 1) = 68
  case neg =>
    rw [decide_eq_false c3] at q3
    rw [kB_no (E := encL) x (n := x.length) (show sj x i = false by unfold sj; exact decide_eq_false fun z => c3 z.2.2.2.2)]
    generalize tab x.length (kB encL x (i + 1)) = T1 at *
    generalize chD (gx x i) = C at *
    generalize chD (gx x (i - 1)) = C1 at *
    generalize chD (gx x (i + 1)) = C2 at *
    generalize ((i : Nat) : Int) - 1 = I1 at *
    generalize ((i : Nat) : Int) + 1 = I2 at *
    generalize ((i : Nat) : Int) = I at *
    simp only [b__law_digits_1, runF, gdO, finR, endF, allO, sSeq, sSet, setR, sOf, leak, mNextS, andThen, mVar, mC, slot, peek, peeks, nrm, O.pk, O.frz, mIf, mTB, mTru, mAnd, mOr, mNot, mOp1, mOp2, mOl1, mOl2, mTup, mLst, mLks, mDct, mDvs, mBi, mBl, mRs, mSm0, mSm1, mSl, mSlL, mPt, mIt, mItZ, zipR, mCall, asArgs, asArg, back, ofRes, mergeO, ofO, ofOS, sIf, sRet, sRetN, sPass, sExp, sAug, sUnp, sPar, sAsg2, sSto, sBrk, sCnt, sFor, sDrop, sMatch, mtL, mOs, setAll, sPut, mItK, mMut0, mMut1, wipeE, unwipe, lcEnd, mLc, mYes, mItS, mItR, mChain, mStar, mLstD, sSlSto, mCallV, mGet2, zipS, mBad, sBad, mNotV, mAndV, mOrV, Tg.put, putAll, List.map_cons, List.map_nil, List.replicate, List.cons_append, List.nil_append, List.getElem?_cons_zero, List.getElem?_cons_succ, Option.bind_some, List.set_cons_zero, List.set_cons_succ, List.take_succ_cons, List.take_zero, List.headD_cons, List.headD_nil, List.tail_cons, List.tail_nil, Option.map_some, Option.map_none, if_true, if_false, Bool.false_eq_true, ite_true, ite_false, Bool.not_true, Bool.not_false, Bool.true_and, Bool.false_and, List.contains, List.elem, List.append_nil, List.length_cons, List.length_nil, Nat.zero_add, Nat.reduceAdd, Nat.reduceLeDiff, lim, Nat.reduceBEq, beq_self_eq_true, Bool.and_self, a1, q1, a2, a3, s1, s2, q2, q3]
  rw [decide_eq_true c3] at q3
  rw [kB_at encL x h1 c2] at kp
  have st := set_tab (kB encL x i) (encL (k0 x (i - 1))) hi
  rw [kB_up (E := encL) x hi (show sj x i = true by unfold sj; exact decide_eq_true ⟨c1, h1, by omega, c2, c3⟩)] at st
  generalize tab x.length (kB encL x (i + 1)) = T1 at *
  generalize tab x.length (kB encL x i) = T0 at *
  generalize encL (k0 x (i - 1)) = V at *
  generalize chD (gx x i) = C at *
  generalize chD (gx x (i - 1)) = C1 at *
  generalize chD (gx x (i + 1)) = C2 at *
  generalize ((i : Nat) : Int) - 1 = I1 at *
  generalize ((i : Nat) : Int) + 1 = I2 at *
  generalize ((i : Nat) : Int) = I at *
  simp only [b__law_digits_1, runF, gdO, finR, endF, allO, sSeq, sSet, setR, sOf, leak, mNextS, andThen, mVar, mC, slot, peek, peeks, nrm, O.pk, O.frz, mIf, mTB, mTru, mAnd, mOr, mNot, mOp1, mOp2, mOl1, mOl2, mTup, mLst, mLks, mDct, mDvs, mBi, mBl, mRs, mSm0, mSm1, mSl, mSlL, mPt, mIt, mItZ, zipR, mCall, asArgs, asArg, back, ofRes, mergeO, ofO, ofOS, sIf, sRet, sRetN, sPass, sExp, sAug, sUnp, sPar, sAsg2, sSto, sBrk, sCnt, sFor, sDrop, sMatch, mtL, mOs, setAll, sPut, mItK, mMut0, mMut1, wipeE, unwipe, lcEnd, mLc, mYes, mItS, mItR, mChain, mStar, mLstD, sSlSto, mCallV, mGet2, zipS, mBad, sBad, mNotV, mAndV, mOrV, Tg.put, putAll, List.map_cons, List.map_nil, List.replicate, List.cons_append, List.nil_append, List.getElem?_cons_zero, List.getElem?_cons_succ, Option.bind_some, List.set_cons_zero, List.set_cons_succ, List.take_succ_cons, List.take_zero, List.headD_cons, List.headD_nil, List.tail_cons, List.tail_nil, Option.map_some, Option.map_none, if_true, if_false, Bool.false_eq_true, ite_true, ite_false, Bool.not_true, Bool.not_false, Bool.true_and, Bool.false_and, List.contains, List.elem, List.append_nil, List.length_cons, List.length_nil, Nat.zero_add, Nat.reduceAdd, Nat.reduceLeDiff, lim, Nat.reduceBEq, beq_self_eq_true, Bool.and_self, a1, q1, a2, a3, s1, s2, q2, q3, kp, ii, st]
/-! signs of a number -/
theorem lo_stop (p : Nat → Bool) : ∀ i, lo p i = 0 ∨ p (lo p i - 1) = false
  | 0 => .inl rfl
  | i + 1 => by
    show (if p i = true then lo p i else i + 1) = 0 ∨ p ((if p i = true then lo p i else i + 1) - 1) = false
    by_cases h : p i = true
    · rw [if_pos h]
      exact lo_stop p i
    · rw [if_neg h]
      refine .inr ?_
      rw [Nat.add_sub_cancel]
      cases q : p i with
      | true => exact absurd q h
      | false => rfl
abbrev c_low : M Bool := mAnd (mTB (mOp2 gtD (mVar 5) (mC (.int 0)))) (mTB (mOp2 eqD (mOp2 ixD (mVar 0) (mOp2 subD (mVar 5) (mC (.int 1)))) (mC (.str [84]))))
abbrev c_high : M Bool := mAnd (mTB (mOp2 ltD (mOp2 addD (mVar 6) (mC (.int 1))) (mBi lenD [(mVar 0)]))) (mTB (mOp2 eqD (mOp2 ixD (mVar 0) (mOp2 addD (mVar 6) (mC (.int 1)))) (mC (.str [84]))))
theorem wh_low (x : List Nat) (i : Nat) (hi : i < x.length) (e1 e2 e3 e4 e6 e7 : Option O) : ∀ (j fuel : Nat), lo (tP x) i ≤ j → j ≤ i → j < fuel → whL c_low b__law_digits_2 fuel [some (.sh (.str x)), e1, e2, e3, e4, some (.sh (.int (j : Nat))), e6, e7] = .nx [some (.sh (.str x)), e1, e2, e3, e4, some (.sh (.int (lo (tP x) i : Nat))), e6, e7]
  | j, 0, _, _, h => by omega
  | j, fuel + 1, h1, h2, h3 => by
    have g := gt_int (j : Nat) 0
    have s := sub_int (j : Nat) 1
    by_cases e : lo (tP x) i = j
    · have stop := lo_stop (tP x) i
      rw [e] at stop ⊢
      have hc : c_low [some (.sh (.str x)), e1, e2, e3, e4, some (.sh (.int (j : Nat))), e6, e7] = .ok false [some (.sh (.str x)), e1, e2, e3, e4, some (.sh (.int (j : Nat))), e6, e7] := by
        by_cases j0 : j = 0
        · rw [decide_eq_false (by omega)] at g
          generalize ((j : Nat) : Int) = J at *
          simp only [c_low, runF, gdO, finR, endF, allO, sSeq, sSet, setR, sOf, leak, mNextS, andThen, mVar, mC, slot, peek, peeks, nrm, O.pk, O.frz, mIf, mTB, mTru, mAnd, mOr, mNot, mOp1, mOp2, mOl1, mOl2, mTup, mLst, mLks, mDct, mDvs, mBi, mBl, mRs, mSm0, mSm1, mSl, mSlL, mPt, mIt, mItZ, zipR, mCall, asArgs, asArg, back, ofRes, mergeO, ofO, ofOS, sIf, sRet, sRetN, sPass, sExp, sAug, sUnp, sPar, sAsg2, sSto, sBrk, sCnt, sFor, sDrop, sMatch, mtL, mOs, setAll, sPut, mItK, mMut0, mMut1, wipeE, unwipe, lcEnd, mLc, mYes, mItS, mItR, mChain, mStar, mLstD, sSlSto, mCallV, mGet2, zipS, mBad, sBad, mNotV, mAndV, mOrV, Tg.put, putAll, List.map_cons, List.map_nil, List.replicate, List.cons_append, List.nil_append, List.getElem?_cons_zero, List.getElem?_cons_succ, Option.bind_some, List.set_cons_zero, List.set_cons_succ, List.take_succ_cons, List.take_zero, List.headD_cons, List.headD_nil, List.tail_cons, List.tail_nil, Option.map_some, Option.map_none, if_true, if_false, Bool.false_eq_true, ite_true, ite_false, Bool.not_true, Bool.not_false, Bool.true_and, Bool.false_and, List.contains, List.elem, List.append_nil, List.length_cons, List.length_nil, Nat.zero_add, Nat.reduceAdd, Nat.reduceLeDiff, lim, Nat.reduceBEq, beq_self_eq_true, Bool.and_self, g]
        · have stop := stop.resolve_left j0
          have a := ix_xm (x := x) (i := j) (by omega) (by omega)
          have q := eq_ch (gx x (j - 1)) 84
          have stop : decide (gx x (j - 1) = 84) = false := stop
          rw [stop] at q
          rw [decide_eq_true (by omega)] at g
          generalize chD (gx x (j - 1)) = C at *
          generalize ((j : Nat) : Int) - 1 = J1 at *
          generalize ((j : Nat) : Int) = J at *
          simp only [c_low, runF, gdO, finR, endF, allO, sSeq, sSet, setR, sOf, leak, mNextS, andThen, mVar, mC, slot, peek, peeks, nrm, O.pk, O.frz, mIf, mTB, mTru, mAnd, mOr, mNot, mOp1, mOp2, mOl1, mOl2, mTup, mLst, mLks, mDct, mDvs, mBi, mBl, mRs, mSm0, mSm1, mSl, mSlL, mPt, mIt, mItZ, zipR, mCall, asArgs, asArg, back, ofRes, mergeO, ofO, ofOS, sIf, sRet, sRetN, sPass, sExp, sAug, sUnp, sPar, sAsg2, sSto, sBrk, sCnt, sFor, sDrop, sMatch, mtL, mOs, setAll, sPut, mItK, mMut0, mMut1, wipeE, unwipe, lcEnd, mLc, mYes, mItS, mItR, mChain, mStar, mLstD, sSlSto, mCallV, mGet2, zipS, mBad, sBad, mNotV, mAndV, mOrV, Tg.put, putAll, List.map_cons, List.map_nil, List.replicate, List.cons_append, List.nil_append, List.getElem?_cons_zero, List.getElem?_cons_succ, Option.bind_some, List.set_cons_zero, List.set_cons_succ, List.take_succ_cons, List.take_zero, List.headD_cons, List.headD_nil, List.tail_cons, List.tail_nil, Option.map_some, Option.map_none, if_true, if_false, Bool.false_eq_true, ite_true, ite_false, Bool.not_true, Bool.not_false, Bool.true_and, Bool.false_and, List.contains, List.elem, List.append_nil, List.length_cons, List.length_nil, Nat.zero_add, Nat.reduceAdd, Nat.reduceLeDiff, lim, Nat.reduceBEq, beq_self_eq_true, Bool.and_self, g, s, a, q]
      simp only [whL, hc]
    · have pj : tP x (j - 1) = true := lo_in (i := i) (by omega) (by omega)
      have a := ix_xm (x := x) (i := j) (by omega) (by omega)
      have q := eq_ch (gx x (j - 1)) 84
      have pj : decide (gx x (j - 1) = 84) = true := pj
      rw [pj] at q
      rw [decide_eq_true (by omega)] at g
      have hc : c_low [some (.sh (.str x)), e1, e2, e3, e4, some (.sh (.int (j : Nat))), e6, e7] = .ok true [some (.sh (.str x)), e1, e2, e3, e4, some (.sh (.int (j : Nat))), e6, e7] := by
        generalize chD (gx x (j - 1)) = C at *
        generalize ((j : Nat) : Int) - 1 = J1 at *
        generalize ((j : Nat) : Int) = J at *
        simp only [c_low, runF, gdO, finR, endF, allO, sSeq, sSet, setR, sOf, leak, mNextS, andThen, mVar, mC, slot, peek, peeks, nrm, O.pk, O.frz, mIf, mTB, mTru, mAnd, mOr, mNot, mOp1, mOp2, mOl1, mOl2, mTup, mLst, mLks, mDct, mDvs, mBi, mBl, mRs, mSm0, mSm1, mSl, mSlL, mPt, mIt, mItZ, zipR, mCall, asArgs, asArg, back, ofRes, mergeO, ofO, ofOS, sIf, sRet, sRetN, sPass, sExp, sAug, sUnp, sPar, sAsg2, sSto, sBrk, sCnt, sFor, sDrop, sMatch, mtL, mOs, setAll, sPut, mItK, mMut0, mMut1, wipeE, unwipe, lcEnd, mLc, mYes, mItS, mItR, mChain, mStar, mLstD, sSlSto, mCallV, mGet2, zipS, mBad, sBad, mNotV, mAndV, mOrV, Tg.put, putAll, List.map_cons, List.map_nil, List.replicate, List.cons_append, List.nil_append, List.getElem?_cons_zero, List.getElem?_cons_succ, Option.bind_some, List.set_cons_zero, List.set_cons_succ, List.take_succ_cons, List.take_zero, List.headD_cons, List.headD_nil, List.tail_cons, List.tail_nil, Option.map_some, Option.map_none, if_true, if_false, Bool.false_eq_true, ite_true, ite_false, Bool.not_true, Bool.not_false, Bool.true_and, Bool.false_and, List.contains, List.elem, List.append_nil, List.length_cons, List.length_nil, Nat.zero_add, Nat.reduceAdd, Nat.reduceLeDiff, lim, Nat.reduceBEq, beq_self_eq_true, Bool.and_self, g, s, a, q]
      have hb : b__law_digits_2 [some (.sh (.str x)), e1, e2, e3, e4, some (.sh (.int (j : Nat))), e6, e7] = .nx [some (.sh (.str x)), e1, e2, e3, e4, some (.sh (.int (j - 1 : Nat))), e6, e7] := by
        have e : ((j - 1 : Nat) : Int) = ((j : Nat) : Int) - 1 := by omega
        rw [e]
        generalize ((j : Nat) : Int) - 1 = J1 at *
        generalize ((j : Nat) : Int) = J at *
        simp only [b__law_digits_2, runF, gdO, finR, endF, allO, sSeq, sSet, setR, sOf, leak, mNextS, andThen, mVar, mC, slot, peek, peeks, nrm, O.pk, O.frz, mIf, mTB, mTru, mAnd, mOr, mNot, mOp1, mOp2, mOl1, mOl2, mTup, mLst, mLks, mDct, mDvs, mBi, mBl, mRs, mSm0, mSm1, mSl, mSlL, mPt, mIt, mItZ, zipR, mCall, asArgs, asArg, back, ofRes, mergeO, ofO, ofOS, sIf, sRet, sRetN, sPass, sExp, sAug, sUnp, sPar, sAsg2, sSto, sBrk, sCnt, sFor, sDrop, sMatch, mtL, mOs, setAll, sPut, mItK, mMut0, mMut1, wipeE, unwipe, lcEnd, mLc, mYes, mItS, mItR, mChain, mStar, mLstD, sSlSto, mCallV, mGet2, zipS, mBad, sBad, mNotV, mAndV, mOrV, Tg.put, putAll, List.map_cons, List.map_nil, List.replicate, List.cons_append, List.nil_append, List.getElem?_cons_zero, List.getElem?_cons_succ, Option.bind_some, List.set_cons_zero, List.set_cons_succ, List.take_succ_cons, List.take_zero, List.headD_cons, List.headD_nil, List.tail_cons, List.tail_nil, Option.map_some, Option.map_none, if_true, if_false, Bool.false_eq_true, ite_true, ite_false, Bool.not_true, Bool.not_false, Bool.true_and, Bool.false_and, List.contains, List.elem, List.append_nil, List.length_cons, List.length_nil, Nat.zero_add, Nat.reduceAdd, Nat.reduceLeDiff, lim, Nat.reduceBEq, beq_self_eq_true, Bool.and_self, s]
      have ih := wh_low x i hi e1 e2 e3 e4 e6 e7 (j - 1) fuel (by omega) (by omega) (by omega)
      simp only [whL, hc, hb]
      exact ih
theorem hi_go (p : Nat → Bool) (n j : Nat) (h : j < n) (hp : p j = true) : hif p (n - j) j = hif p (n - (j + 1)) (j + 1) := by
  rw [show n - j = (n - (j + 1)) + 1 by omega]
  show (if p j = true then _ else _) = _
  rw [if_pos hp]
theorem hi_end (p : Nat → Bool) (n j : Nat) (h : j ≥ n ∨ p j = false) : hif p (n - j) j = j := by
  cases q : n - j with
  | zero => rfl
  | succ m =>
    show (if p j = true then _ else _) = _
    rw [if_neg (by rw [h.resolve_left (by omega)]; decide)]
theorem wh_high (x : List Nat) (e1 e2 e3 e4 e5 e7 : Option O) : ∀ (fuel j : Nat), j < x.length → tP x j = true → x.length < fuel + j → whL c_high b__law_digits_3 fuel [some (.sh (.str x)), e1, e2, e3, e4, e5, some (.sh (.int (j : Nat))), e7] = .nx [some (.sh (.str x)), e1, e2, e3, e4, e5, some (.sh (.int ((hif (tP x) (x.length - j) j : Nat) - 1 : Int))), e7]
  | 0, j, h1, _, h => by omega
  | fuel + 1, j, h1, h2, h3 => by
    have s := add_int (j : Nat) 1
    have l := len_str x
    have g := lt_int (((j : Nat) : Int) + 1) (x.length : Nat)
    rw [hi_go (tP x) x.length j h1 h2]
    by_cases c : j + 1 < x.length ∧ tP x (j + 1) = true
    · have a := ix_xp c.1
      have q := eq_ch (gx x (j + 1)) 84
      have pj : decide (gx x (j + 1) = 84) = true := c.2
      rw [pj] at q
      rw [decide_eq_true (by omega)] at g
      have ai := addI_int (j : Nat) 1
      have hc : c_high [some (.sh (.str x)), e1, e2, e3, e4, e5, some (.sh (.int (j : Nat))), e7] = .ok true [some (.sh (.str x)), e1, e2, e3, e4, e5, some (.sh (.int (j : Nat))), e7] := by
        generalize chD (gx x (j + 1)) = C at *
        generalize ((j : Nat) : Int) + 1 = J1 at *
        generalize ((j : Nat) : Int) = J at *
        generalize ((x.length : Nat) : Int) = L at *
        simp only [c_high, runF, gdO, finR, endF, allO, sSeq, sSet, setR, sOf, leak, mNextS, andThen, mVar, mC, slot, peek, peeks, nrm, O.pk, O.frz, mIf, mTB, mTru, mAnd, mOr, mNot, mOp1, mOp2, mOl1, mOl2, mTup, mLst, mLks, mDct, mDvs, mBi, mBl, mRs, mSm0, mSm1, mSl, mSlL, mPt, mIt, mItZ, zipR, mCall, asArgs, asArg, back, ofRes, mergeO, ofO, ofOS, sIf, sRet, sRetN, sPass, sExp, sAug, sUnp, sPar, sAsg2, sSto, sBrk, sCnt, sFor, sDrop, sMatch, mtL, mOs, setAll, sPut, mItK, mMut0, mMut1, wipeE, unwipe, lcEnd, mLc, mYes, mItS, mItR, mChain, mStar, mLstD, sSlSto, mCallV, mGet2, zipS, mBad, sBad, mNotV, mAndV, mOrV, Tg.put, putAll, List.map_cons, List.map_nil, List.replicate, List.cons_append, List.nil_append, List.getElem?_cons_zero, List.getElem?_cons_succ, Option.bind_some, List.set_cons_zero, List.set_cons_succ, List.take_succ_cons, List.take_zero, List.headD_cons, List.headD_nil, List.tail_cons, List.tail_nil, Option.map_some, Option.map_none, if_true, if_false, Bool.false_eq_true, ite_true, ite_false, Bool.not_true, Bool.not_false, Bool.true_and, Bool.false_and, List.contains, List.elem, List.append_nil, List.length_cons, List.length_nil, Nat.zero_add, Nat.reduceAdd, Nat.reduceLeDiff, lim, Nat.reduceBEq, beq_self_eq_true, Bool.and_self, g, s, l, a, q]
      have hb : b__law_digits_3 [some (.sh (.str x)), e1, e2, e3, e4, e5, some (.sh (.int (j : Nat))), e7] = .nx [some (.sh (.str x)), e1, e2, e3, e4, e5, some (.sh (.int (j + 1 : Nat))), e7] := by
        have e : ((j + 1 : Nat) : Int) = ((j : Nat) : Int) + 1 := by omega
        rw [e]
        generalize ((j : Nat) : Int) + 1 = J1 at *
        generalize ((j : Nat) : Int) = J at *
        simp only [b__law_digits_3, runF, gdO, finR, endF, allO, sSeq, sSet, setR, sOf, leak, mNextS, andThen, mVar, mC, slot, peek, peeks, nrm, O.pk, O.frz, mIf, mTB, mTru, mAnd, mOr, mNot, mOp1, mOp2, mOl1, mOl2, mTup, mLst, mLks, mDct, mDvs, mBi, mBl, mRs, mSm0, mSm1, mSl, mSlL, mPt, mIt, mItZ, zipR, mCall, asArgs, asArg, back, ofRes, mergeO, ofO, ofOS, sIf, sRet, sRetN, sPass, sExp, sAug, sUnp, sPar, sAsg2, sSto, sBrk, sCnt, sFor, sDrop, sMatch, mtL, mOs, setAll, sPut, mItK, mMut0, mMut1, wipeE, unwipe, lcEnd, mLc, mYes, mItS, mItR, mChain, mStar, mLstD, sSlSto, mCallV, mGet2, zipS, mBad, sBad, mNotV, mAndV, mOrV, Tg.put, putAll, List.map_cons, List.map_nil, List.replicate, List.cons_append, List.nil_append, List.getElem?_cons_zero, List.getElem?_cons_succ, Option.bind_some, List.set_cons_zero, List.set_cons_succ, List.take_succ_cons, List.take_zero, List.headD_cons, List.headD_nil, List.tail_cons, List.tail_nil, Option.map_some, Option.map_none, if_true, if_false, Bool.false_eq_true, ite_true, ite_false, Bool.not_true, Bool.not_false, Bool.true_and, Bool.false_and, List.contains, List.elem, List.append_nil, List.length_cons, List.length_nil, Nat.zero_add, Nat.reduceAdd, Nat.reduceLeDiff, lim, Nat.reduceBEq, beq_self_eq_true, Bool.and_self, ai]
      have ih := wh_high x e1 e2 e3 e4 e5 e7 fuel (j + 1) c.1 c.2 (by omega)
      simp only [whL, hc, hb]
      exact ih
    · have he : hif (tP x) (x.length - (j + 1)) (j + 1) = j + 1 := hi_end _ _ _ (by
        by_cases c1 : j + 1 < x.length
        · refine .inr ?_
          cases q : tP x (j + 1) with
          | true => exact absurd ⟨c1, q⟩ c
          | false => rfl
        · exact .inl (by omega))
      rw [he]
      have e : ((j + 1 : Nat) : Int) - 1 = ((j : Nat) : Int) := by omega
      rw [e]
      have hc : c_high [some (.sh (.str x)), e1, e2, e3, e4, e5, some (.sh (.int (j : Nat))), e7] = .ok false [some (.sh (.str x)), e1, e2, e3, e4, e5, some (.sh (.int (j : Nat))), e7] := by
        by_cases c1 : j + 1 < x.length
        · have a := ix_xp c1
          have q := eq_ch (gx x (j + 1)) 84
          have pj : decide (gx x (j + 1) = 84) = false := by
            cases q : tP x (j + 1) with
            | true => exact absurd ⟨c1, q⟩ c
            | false => exact q
          rw [pj] at q
          rw [decide_eq_true (by omega)] at g
          generalize chD (gx x (j + 1)) = C at *
          generalize ((j : Nat) : Int) + 1 = J1 at *
          generalize ((j : Nat) : Int) = J at *
          generalize ((x.length : Nat) : Int) = L at *
          simp only [c_high, runF, gdO, finR, endF, allO, sSeq, sSet, setR, sOf, leak, mNextS, andThen, mVar, mC, slot, peek, peeks, nrm, O.pk, O.frz, mIf, mTB, mTru, mAnd, mOr, mNot, mOp1, mOp2, mOl1, mOl2, mTup, mLst, mLks, mDct, mDvs, mBi, mBl, mRs, mSm0, mSm1, mSl, mSlL, mPt, mIt, mItZ, zipR, mCall, asArgs, asArg, back, ofRes, mergeO, ofO, ofOS, sIf, sRet, sRetN, sPass, sExp, sAug, sUnp, sPar, sAsg2, sSto, sBrk, sCnt, sFor, sDrop, sMatch, mtL, mOs, setAll, sPut, mItK, mMut0, mMut1, wipeE, unwipe, lcEnd, mLc, mYes, mItS, mItR, mChain, mStar, mLstD, sSlSto, mCallV, mGet2, zipS, mBad, sBad, mNotV, mAndV, mOrV, Tg.put, putAll, List.map_cons, List.map_nil, List.replicate, List.cons_append, List.nil_append, List.getElem?_cons_zero, List.getElem?_cons_succ, Option.bind_some, List.set_cons_zero, List.set_cons_succ, List.take_succ_cons, List.take_zero, List.headD_cons, List.headD_nil, List.tail_cons, List.tail_nil, Option.map_some, Option.map_none, if_true, if_false, Bool.false_eq_true, ite_true, ite_false, Bool.not_true, Bool.not_false, Bool.true_and, Bool.false_and, List.contains, List.elem, List.append_nil, List.length_cons, List.length_nil, Nat.zero_add, Nat.reduceAdd, Nat.reduceLeDiff, lim, Nat.reduceBEq, beq_self_eq_true, Bool.and_self, g, s, l, a, q]
        · rw [decide_eq_false (by omega)] at g
          generalize ((j : Nat) : Int) + 1 = J1 at *
          generalize ((j : Nat) : Int) = J at *
          generalize ((x.length : Nat) : Int) = L at *
          simp only [c_high, runF, gdO, finR, endF, allO, sSeq, sSet, setR, sOf, leak, mNextS, andThen, mVar, mC, slot, peek, peeks, nrm, O.pk, O.frz, mIf, mTB, mTru, mAnd, mOr, mNot, mOp1, mOp2, mOl1, mOl2, mTup, mLst, mLks, mDct, mDvs, mBi, mBl, mRs, mSm0, mSm1, mSl, mSlL, mPt, mIt, mItZ, zipR, mCall, asArgs, asArg, back, ofRes, mergeO, ofO, ofOS, sIf, sRet, sRetN, sPass, sExp, sAug, sUnp, sPar, sAsg2, sSto, sBrk, sCnt, sFor, sDrop, sMatch, mtL, mOs, setAll, sPut, mItK, mMut0, mMut1, wipeE, unwipe, lcEnd, mLc, mYes, mItS, mItR, mChain, mStar, mLstD, sSlSto, mCallV, mGet2, zipS, mBad, sBad, mNotV, mAndV, mOrV, Tg.put, putAll, List.map_cons, List.map_nil, List.replicate, List.cons_append, List.nil_append, List.getElem?_cons_zero, List.getElem?_cons_succ, Option.bind_some, List.set_cons_zero, List.set_cons_succ, List.take_succ_cons, List.take_zero, List.headD_cons, List.headD_nil, List.tail_cons, List.tail_nil, Option.map_some, Option.map_none, if_true, if_false, Bool.false_eq_true, ite_true, ite_false, Bool.not_true, Bool.not_false, Bool.true_and, Bool.false_and, List.contains, List.elem, List.append_nil, List.length_cons, List.length_nil, Nat.zero_add, Nat.reduceAdd, Nat.reduceLeDiff, lim, Nat.reduceBEq, beq_self_eq_true, Bool.and_self, g, s, l]
      simp only [whL, hc]
end F
end

section
set_option linter.all false
set_option autoImplicit false
set_option maxRecDepth 100000
set_option maxHeartbeats 1000000
/-! the law's rule 4 -/
namespace F
def kL (x : List Nat) (j : Nat) : Kd := if tP x j = true then (if joined x (lo (tP x) j) (hif (tP x) (x.length - j) j) = true then .pl else .c 78) else k1 x j
def kC (x : List Nat) (i j : Nat) : F.D := if j < i then encL (kL x j) else encL (k1 x j)
theorem kC_up (x : List Nat) {i n : Nat} (hi : i < n) {v : F.D} (hv : encL (kL x i) = v) : (tab n fun j => if j = i then v else kC x i j) = tab n (kC x (i + 1)) := tab_congr fun j hj => by
  unfold kC
  by_cases e : j = i
  · subst e
    rw [if_pos rfl, if_pos (by omega), hv]
  · rw [if_neg e]
    by_cases c : j < i
    · rw [if_pos c, if_pos (by omega)]
    · rw [if_neg c, if_neg (by omega)]
theorem kC_no (x : List Nat) {i n : Nat} (h : tP x i = false) : tab n (kC x i) = tab n (kC x (i + 1)) := tab_congr fun j hj => by
  unfold kC
  by_cases e : j = i
  · subst e
    rw [if_neg (by omega), if_pos (by omega), kL, if_neg (by rw [h]; decide)]
  · by_cases c : j < i
    · rw [if_pos c, if_pos (by omega)]
    · rw [if_neg c, if_neg (by omega)]
abbrev bodyT (W1 W2 : MS) : MS := (sDrop (sDrop (sIf (mTB (mOp2 eqD (mVar 4) (mC (.str [84])))) (sSeq (sPar [5, 6] [(mVar 3), (mVar 3)])
  (sSeq W1
  (sSeq W2
  (sSeq (sSet 7 (mAndV (mOp2 gtD (mVar 5) (mC (.int 0))) (mAndV (mOp2 eqD (mOp2 ixD (mVar 2) (mOp2 subD (mVar 5) (mC (.int 1)))) (mC (.str [100]))) (mOp2 neD (mOp2 ixD (mVar 0) (mOp2 subD (mVar 5) (mC (.int 1)))) (mC (.str [84]))))))
  (sSto 2 (mVar 3) (mIf (mOr (mTru (mVar 7)) (mTB (mOp2 eqD (mSlL slL (mVar 2) (some (mOp2 addD (mVar 6) (mC (.int 1)))) (some (mOp2 addD (mVar 6) (mC (.int 2))))) (mLst [(mC (.str [100]))])))) (mC (.str [100])) (mC (.str [78])))))))) sPass) [5, 6, 7]) [3, 4, 5, 6, 7])
theorem bodyT_eq : b__law_digits_4 = bodyT (sWhile 1000 c_low b__law_digits_2) (sWhile 1000 c_high b__law_digits_3) := rfl
theorem gx_in {x : List Nat} (hx : ∀ c ∈ x, c ∈ cl7) {i : Nat} (h : i < x.length) : gx x i ∈ cl7 := by
  unfold gx
  rw [List.getD_eq_getElem?_getD, List.getElem?_eq_getElem h]
  exact hx _ (List.getElem_mem h)
theorem eqB_d {x : List Nat} (hx : ∀ c ∈ x, c ∈ cl7) {i : Nat} (h : i < x.length) : eqB (encL (k1 x i)) (.str [100]) = decide (k1 x i = .pl) := by
  rcases k1_cases x i with ⟨h1 | h1, _⟩ | ⟨h1, _⟩
  · rw [h1]
    rfl
  · rw [h1]
    rfl
  · rw [h1]
    have g := gx_in hx h
    generalize gx x i = k at *
    simp only [List.mem_cons, List.not_mem_nil, or_false] at g
    rcases g with rfl | rfl | rfl | rfl | rfl | rfl | rfl <;> rfl
theorem eq_dd {x : List Nat} (hx : ∀ c ∈ x, c ∈ cl7) {i : Nat} (h : i < x.length) : eqD (encL (k1 x i)) (.str [100]) = some (.bl (decide (k1 x i = .pl))) := by
  rw [← eqB_d hx h]
  cases k1 x i <;> rfl
theorem eq_ddl {x : List Nat} (hx : ∀ c ∈ x, c ∈ cl7) {i : Nat} (h : i < x.length) : eqD (.lst [encL (k1 x i)]) (.lst [.str [100]]) = some (.bl (decide (k1 x i = .pl))) := by
  rw [← eqB_d hx h]
  cases k1 x i with
  | c k =>
    show some (F.D.bl (([k] == [100]) && true)) = _
    rw [Bool.and_true]
    rfl
  | pl => rfl
  | ea => rfl
theorem lo_lt (x : List Nat) {i : Nat} (h : i < x.length) (h0 : 0 < lo (tP x) i) : lo (tP x) i - 1 < x.length := by
  have := lo_le (tP x) i
  omega
theorem hif_ge (p : Nat → Bool) : ∀ m j, j ≤ hif p m j
  | 0, j => Nat.le_refl _
  | m + 1, j => by
    have := hif_ge p m (j + 1)
    show j ≤ if p j = true then hif p m (j + 1) else j
    split <;> omega
theorem hi_gt (x : List Nat) {i : Nat} (h : i < x.length) (ht : tP x i = true) : i < hif (tP x) (x.length - i) i := by
  rw [hi_go _ _ _ h ht]
  have := hif_ge (tP x) (x.length - (i + 1)) (i + 1)
  omega
theorem ld_step (x : List Nat) (hn : x.length ≤ 900) (hx : ∀ c ∈ x, c ∈ cl7) (B : F.D) (i : Nat) (hi : i < x.length) :
    b__law_digits_4 [some (.sh (.str x)), some (.sh B), some (.fl (tab x.length (kC x i))), some (.sh (.int (i : Nat))), some (.sh (chD (gx x i))), none, none, none] = .nx [some (.sh (.str x)), some (.sh B), some (.fl (tab x.length (kC x (i + 1)))), none, none, none, none, none] := by
  rw [bodyT_eq]
  have w1 := fun e1 e2 e3 e4 e6 e7 => wh_low x i hi e1 e2 e3 e4 e6 e7 i 1000 (lo_le _ _) (Nat.le_refl _) (by omega)
  have q := eq_ch (gx x i) 84
  cases ht : tP x i with
  | false =>
    have ht : decide (gx x i = 84) = false := ht
    rw [ht] at q
    rw [kC_no x ht]
    generalize sWhile 1000 c_low b__law_digits_2 = W1 at *
    generalize sWhile 1000 c_high b__law_digits_3 = W2 at *
    generalize tab x.length (kC x (i + 1)) = T1 at *
    generalize chD (gx x i) = C at *
    generalize ((i : Nat) : Int) = I at *
    simp only [bodyT, runF, gdO, finR, endF, allO, sSeq, sSet, setR, sOf, leak, mNextS, andThen, mVar, mC, slot, peek, peeks, nrm, O.pk, O.frz, mIf, mTB, mTru, mAnd, mOr, mNot, mOp1, mOp2, mOl1, mOl2, mTup, mLst, mLks, mDct, mDvs, mBi, mBl, mRs, mSm0, mSm1, mSl, mSlL, mPt, mIt, mItZ, zipR, mCall, asArgs, asArg, back, ofRes, mergeO, ofO, ofOS, sIf, sRet, sRetN, sPass, sExp, sAug, sUnp, sPar, sAsg2, sSto, sBrk, sCnt, sFor, sDrop, sMatch, mtL, mOs, setAll, sPut, mItK, mMut0, mMut1, wipeE, unwipe, lcEnd, mLc, mYes, mItS, mItR, mChain, mStar, mLstD, sSlSto, mCallV, mGet2, zipS, mBad, sBad, mNotV, mAndV, mOrV, Tg.put, putAll, List.map_cons, List.map_nil, List.replicate, List.cons_append, List.nil_append, List.getElem?_cons_zero, List.getElem?_cons_succ, Option.bind_some, List.set_cons_zero, List.set_cons_succ, List.take_succ_cons, List.take_zero, List.headD_cons, List.headD_nil, List.tail_cons, List.tail_nil, Option.map_some, Option.map_none, if_true, if_false, Bool.false_eq_true, ite_true, ite_false, Bool.not_true, Bool.not_false, Bool.true_and, Bool.false_and, List.contains, List.elem, List.append_nil, List.length_cons, List.length_nil, Nat.zero_add, Nat.reduceAdd, Nat.reduceLeDiff, lim, Nat.reduceBEq, beq_self_eq_true, Bool.and_self, q]
  | true =>
    have w2 := fun e1 e2 e3 e4 e5 e7 => wh_high x e1 e2 e3 e4 e5 e7 1000 i hi ht (by omega)
    have hl := lo_le (tP x) i
    have hg := hi_gt x hi ht
    have hL : kL x i = if joined x (lo (tP x) i) (hif (tP x) (x.length - i) i) = true then .pl else .c 78 := by unfold kL; rw [if_pos ht]
    have ht : decide (gx x i = 84) = true := ht
    rw [ht] at q
    have ll := fun h0 => lo_lt x hi h0
    have ls := lo_stop (tP x) i
    generalize hif (tP x) (x.length - i) i = h at *
    generalize lo (tP x) i = a at *
    have g := gt_int (a : Nat) 0
    have s1 := sub_int (a : Nat) 1
    have s2 := add_int (((h : Nat) : Int) - 1) 1
    have s3 := add_int (((h : Nat) : Int) - 1) 2
    rw [show ((h : Nat) : Int) - 1 + 1 = ((h : Nat) : Int) by omega] at s2
    rw [show ((h : Nat) : Int) - 1 + 2 = ((h + 1 : Nat) : Int) by omega] at s3
    have cu : slL (.lst (tab x.length (kC x i))) (some ((h : Nat) : Int)) (some ((h + 1 : Nat) : Int)) = some (if h < x.length then [encL (k1 x h)] else []) := by
      show some (cut _ _ _) = _
      rw [cut_one]
      by_cases c : h < x.length
      · rw [if_pos c, if_pos c]
        unfold kC
        rw [if_neg (by omega)]
      · rw [if_neg c, if_neg c]
    have ii := ixI_tab (kC x i) hi
    have f1 : 0 < a → ixD (.lst (tab x.length (kC x i))) (.int ((a : Nat) - 1 : Int)) = some (encL (k1 x (a - 1))) := fun h0 => by
      rw [ix_tabP _ h0 (by omega)]
      unfold kC
      rw [if_pos (by omega), kL, if_neg (by rw [ls.resolve_left (by omega)]; decide)]
    have f2 : 0 < a → ixD (.str x) (.int ((a : Nat) - 1 : Int)) = some (chD (gx x (a - 1))) := fun h0 => ix_xm h0 (by omega)
    have f3 : 0 < a → neD (chD (gx x (a - 1))) (.str [84]) = some (.bl true) := fun h0 => by
      rw [ne_ch]
      have : decide (gx x (a - 1) = 84) = false := ls.resolve_left (by omega)
      rw [this]
      rfl
    have f4 : 0 < a → eqD (encL (k1 x (a - 1))) (.str [100]) = some (.bl (decide (k1 x (a - 1) = .pl))) := fun h0 => eq_dd hx (ll h0)
    have st1 := set_tab (kC x i) (.str [100]) hi
    have st2 := set_tab (kC x i) (.str [78]) hi
    have k1' : joined x a h = true → (tab x.length fun j => if j = i then .str [100] else kC x i j) = tab x.length (kC x (i + 1)) := fun j => kC_up x hi (by rw [hL, if_pos j]; rfl)
    have k2' : joined x a h = false → (tab x.length fun j => if j = i then .str [78] else kC x i j) = tab x.length (kC x (i + 1)) := fun j => kC_up x hi (by rw [hL, if_neg (by rw [j]; decide)]; rfl)
    have w1 : ∀ e1 e2 e3 e4 e6 e7, sWhile 1000 c_low b__law_digits_2 [some (.sh (.str x)), e1, e2, e3, e4, some (.sh (.int (i : Nat))), e6, e7] = _ := w1
    have w2 : ∀ e1 e2 e3 e4 e5 e7, sWhile 1000 c_high b__law_digits_3 [some (.sh (.str x)), e1, e2, e3, e4, e5, some (.sh (.int (i : Nat))), e7] = _ := w2
    have tt : truD (.bl true) = some true := rfl
    have tf : truD (.bl false) = some false := rfl
    have e5 : h < x.length → eqD (.lst [encL (k1 x h)]) (.lst [.str [100]]) = some (.bl (decide (k1 x h = .pl))) := fun hh => eq_ddl hx hh
    have e6 : eqD (.lst []) (.lst [.str [100]]) = some (.bl false) := rfl
    have jd : joined x a h = ((decide (0 < a) && decide (k1 x (a - 1) = .pl)) || (decide (h < x.length) && decide (k1 x h = .pl))) := rfl
    have d1 : decide ((0 : Int) < ((a : Nat) : Int)) = decide (0 < a) := by
      by_cases h : 0 < a
      · rw [decide_eq_true h, decide_eq_true (by omega)]
      · rw [decide_eq_false h, decide_eq_false (by omega)]
    rw [d1] at g
    generalize sWhile 1000 c_low b__law_digits_2 = W1 at *
    generalize sWhile 1000 c_high b__law_digits_3 = W2 at *
    generalize tab x.length (kC x (i + 1)) = T1 at *
    generalize tab x.length (kC x i) = T0 at *
    generalize (tab x.length fun j => if j = i then F.D.str [100] else kC x i j) = T2 at *
    generalize (tab x.length fun j => if j = i then F.D.str [78] else kC x i j) = T3 at *
    generalize chD (gx x i) = C at *
    generalize chD (gx x (a - 1)) = C1 at *
    generalize encL (k1 x (a - 1)) = E1 at *
    generalize encL (k1 x h) = E2 at *
    generalize decide (k1 x (a - 1) = .pl) = b1 at *
    generalize decide (k1 x h = .pl) = b2 at *
    generalize ((h + 1 : Nat) : Int) = H1 at *
    generalize ((h : Nat) : Int) - 1 = H0 at *
    generalize ((h : Nat) : Int) = H at *
    generalize ((a : Nat) : Int) - 1 = A1 at *
    generalize ((a : Nat) : Int) = A at *
    generalize ((i : Nat) : Int) = I at *
    generalize joined x a h = J at *
    by_cases c1 : 0 < a
    · have f1 := f1 c1
      have f2 := f2 c1
      have f3 := f3 c1
      have f4 := f4 c1
      rw [decide_eq_true c1] at g jd
      rw [Bool.true_and] at jd
      cases b1 with
      | true =>
        rw [Bool.true_or] at jd
        rw [k1' jd] at st1
        simp only [bodyT, runF, gdO, finR, endF, allO, sSeq, sSet, setR, sOf, leak, mNextS, andThen, mVar, mC, slot, peek, peeks, nrm, O.pk, O.frz, mIf, mTB, mTru, mAnd, mOr, mNot, mOp1, mOp2, mOl1, mOl2, mTup, mLst, mLks, mDct, mDvs, mBi, mBl, mRs, mSm0, mSm1, mSl, mSlL, mPt, mIt, mItZ, zipR, mCall, asArgs, asArg, back, ofRes, mergeO, ofO, ofOS, sIf, sRet, sRetN, sPass, sExp, sAug, sUnp, sPar, sAsg2, sSto, sBrk, sCnt, sFor, sDrop, sMatch, mtL, mOs, setAll, sPut, mItK, mMut0, mMut1, wipeE, unwipe, lcEnd, mLc, mYes, mItS, mItR, mChain, mStar, mLstD, sSlSto, mCallV, mGet2, zipS, mBad, sBad, mNotV, mAndV, mOrV, Tg.put, putAll, List.map_cons, List.map_nil, List.replicate, List.cons_append, List.nil_append, List.getElem?_cons_zero, List.getElem?_cons_succ, Option.bind_some, List.set_cons_zero, List.set_cons_succ, List.take_succ_cons, List.take_zero, List.headD_cons, List.headD_nil, List.tail_cons, List.tail_nil, Option.map_some, Option.map_none, if_true, if_false, Bool.false_eq_true, ite_true, ite_false, Bool.not_true, Bool.not_false, Bool.true_and, Bool.false_and, List.contains, List.elem, List.append_nil, List.length_cons, List.length_nil, Nat.zero_add, Nat.reduceAdd, Nat.reduceLeDiff, lim, Nat.reduceBEq, beq_self_eq_true, Bool.and_self, mTru, q, w1, w2, g, s1, f1, f4, f2, f3, tt, ii, st1]
      | false =>
        rw [Bool.false_or] at jd
        by_cases c2 : h < x.length
        · rw [if_pos c2] at cu
          have e5 := e5 c2
          rw [decide_eq_true c2, Bool.true_and] at jd
          subst jd
          cases J with
          | true =>
            rw [k1' rfl] at st1
            simp only [bodyT, runF, gdO, finR, endF, allO, sSeq, sSet, setR, sOf, leak, mNextS, andThen, mVar, mC, slot, peek, peeks, nrm, O.pk, O.frz, mIf, mTB, mTru, mAnd, mOr, mNot, mOp1, mOp2, mOl1, mOl2, mTup, mLst, mLks, mDct, mDvs, mBi, mBl, mRs, mSm0, mSm1, mSl, mSlL, mPt, mIt, mItZ, zipR, mCall, asArgs, asArg, back, ofRes, mergeO, ofO, ofOS, sIf, sRet, sRetN, sPass, sExp, sAug, sUnp, sPar, sAsg2, sSto, sBrk, sCnt, sFor, sDrop, sMatch, mtL, mOs, setAll, sPut, mItK, mMut0, mMut1, wipeE, unwipe, lcEnd, mLc, mYes, mItS, mItR, mChain, mStar, mLstD, sSlSto, mCallV, mGet2, zipS, mBad, sBad, mNotV, mAndV, mOrV, Tg.put, putAll, List.map_cons, List.map_nil, List.replicate, List.cons_append, List.nil_append, List.getElem?_cons_zero, List.getElem?_cons_succ, Option.bind_some, List.set_cons_zero, List.set_cons_succ, List.take_succ_cons, List.take_zero, List.headD_cons, List.headD_nil, List.tail_cons, List.tail_nil, Option.map_some, Option.map_none, if_true, if_false, Bool.false_eq_true, ite_true, ite_false, Bool.not_true, Bool.not_false, Bool.true_and, Bool.false_and, List.contains, List.elem, List.append_nil, List.length_cons, List.length_nil, Nat.zero_add, Nat.reduceAdd, Nat.reduceLeDiff, lim, Nat.reduceBEq, beq_self_eq_true, Bool.and_self, mTru, q, w1, w2, g, s1, f1, f4, f2, f3, tf, s2, s3, cu, e5, ii, st1]
          | false =>
            rw [k2' rfl] at st2
            simp only [bodyT, runF, gdO, finR, endF, allO, sSeq, sSet, setR, sOf, leak, mNextS, andThen, mVar, mC, slot, peek, peeks, nrm, O.pk, O.frz, mIf, mTB, mTru, mAnd, mOr, mNot, mOp1, mOp2, mOl1, mOl2, mTup, mLst, mLks, mDct, mDvs, mBi, mBl, mRs, mSm0, mSm1, mSl, mSlL, mPt, mIt, mItZ, zipR, mCall, asArgs, asArg, back, ofRes, mergeO, ofO, ofOS, sIf, sRet, sRetN, sPass, sExp, sAug, sUnp, sPar, sAsg2, sSto, sBrk, sCnt, sFor, sDrop, sMatch, mtL, mOs, setAll, sPut, mItK, mMut0, mMut1, wipeE, unwipe, lcEnd, mLc, mYes, mItS, mItR, mChain, mStar, mLstD, sSlSto, mCallV, mGet2, zipS, mBad, sBad, mNotV, mAndV, mOrV, Tg.put, putAll, List.map_cons, List.map_nil, List.replicate, List.cons_append, List.nil_append, List.getElem?_cons_zero, List.getElem?_cons_succ, Option.bind_some, List.set_cons_zero, List.set_cons_succ, List.take_succ_cons, List.take_zero, List.headD_cons, List.headD_nil, List.tail_cons, List.tail_nil, Option.map_some, Option.map_none, if_true, if_false, Bool.false_eq_true, ite_true, ite_false, Bool.not_true, Bool.not_false, Bool.true_and, Bool.false_and, List.contains, List.elem, List.append_nil, List.length_cons, List.length_nil, Nat.zero_add, Nat.reduceAdd, Nat.reduceLeDiff, lim, Nat.reduceBEq, beq_self_eq_true, Bool.and_self, mTru, q, w1, w2, g, s1, f1, f4, f2, f3, tf, s2, s3, cu, e5, ii, st2]
        · rw [if_neg c2] at cu
          rw [decide_eq_false c2, Bool.false_and] at jd
          rw [k2' jd] at st2
          simp only [bodyT, runF, gdO, finR, endF, allO, sSeq, sSet, setR, sOf, leak, mNextS, andThen, mVar, mC, slot, peek, peeks, nrm, O.pk, O.frz, mIf, mTB, mTru, mAnd, mOr, mNot, mOp1, mOp2, mOl1, mOl2, mTup, mLst, mLks, mDct, mDvs, mBi, mBl, mRs, mSm0, mSm1, mSl, mSlL, mPt, mIt, mItZ, zipR, mCall, asArgs, asArg, back, ofRes, mergeO, ofO, ofOS, sIf, sRet, sRetN, sPass, sExp, sAug, sUnp, sPar, sAsg2, sSto, sBrk, sCnt, sFor, sDrop, sMatch, mtL, mOs, setAll, sPut, mItK, mMut0, mMut1, wipeE, unwipe, lcEnd, mLc, mYes, mItS, mItR, mChain, mStar, mLstD, sSlSto, mCallV, mGet2, zipS, mBad, sBad, mNotV, mAndV, mOrV, Tg.put, putAll, List.map_cons, List.map_nil, List.replicate, List.cons_append, List.nil_append, List.getElem?_cons_zero, List.getElem?_cons_succ, Option.bind_some, List.set_cons_zero, List.set_cons_succ, List.take_succ_cons, List.take_zero, List.headD_cons, List.headD_nil, List.tail_cons, List.tail_nil, Option.map_some, Option.map_none, if_true, if_false, Bool.false_eq_true, ite_true, ite_false, Bool.not_true, Bool.not_false, Bool.true_and, Bool.false_and, List.contains, List.elem, List.append_nil, List.length_cons, List.length_nil, Nat.zero_add, Nat.reduceAdd, Nat.reduceLeDiff, lim, Nat.reduceBEq, beq_self_eq_true, Bool.and_self, mTru, q, w1, w2, g, s1, f1, f4, f2, f3, tf, s2, s3, cu, e6, ii, st2]
    · rw [decide_eq_false c1] at g jd
      rw [Bool.false_and, Bool.false_or] at jd
      by_cases c2 : h < x.length
      · rw [if_pos c2] at cu
        have e5 := e5 c2
        rw [decide_eq_true c2, Bool.true_and] at jd
        subst jd
        cases J with
        | true =>
          rw [k1' rfl] at st1
          simp only [bodyT, runF, gdO, finR, endF, allO, sSeq, sSet, setR, sOf, leak, mNextS, andThen, mVar, mC, slot, peek, peeks, nrm, O.pk, O.frz, mIf, mTB, mTru, mAnd, mOr, mNot, mOp1, mOp2, mOl1, mOl2, mTup, mLst, mLks, mDct, mDvs, mBi, mBl, mRs, mSm0, mSm1, mSl, mSlL, mPt, mIt, mItZ, zipR, mCall, asArgs, asArg, back, ofRes, mergeO, ofO, ofOS, sIf, sRet, sRetN, sPass, sExp, sAug, sUnp, sPar, sAsg2, sSto, sBrk, sCnt, sFor, sDrop, sMatch, mtL, mOs, setAll, sPut, mItK, mMut0, mMut1, wipeE, unwipe, lcEnd, mLc, mYes, mItS, mItR, mChain, mStar, mLstD, sSlSto, mCallV, mGet2, zipS, mBad, sBad, mNotV, mAndV, mOrV, Tg.put, putAll, List.map_cons, List.map_nil, List.replicate, List.cons_append, List.nil_append, List.getElem?_cons_zero, List.getElem?_cons_succ, Option.bind_some, List.set_cons_zero, List.set_cons_succ, List.take_succ_cons, List.take_zero, List.headD_cons, List.headD_nil, List.tail_cons, List.tail_nil, Option.map_some, Option.map_none, if_true, if_false, Bool.false_eq_true, ite_true, ite_false, Bool.not_true, Bool.not_false, Bool.true_and, Bool.false_and, List.contains, List.elem, List.append_nil, List.length_cons, List.length_nil, Nat.zero_add, Nat.reduceAdd, Nat.reduceLeDiff, lim, Nat.reduceBEq, beq_self_eq_true, Bool.and_self, mTru, q, w1, w2, g, tf, s2, s3, cu, e5, ii, st1]
        | false =>
          rw [k2' rfl] at st2
          simp only [bodyT, runF, gdO, finR, endF, allO, sSeq, sSet, setR, sOf, leak, mNextS, andThen, mVar, mC, slot, peek, peeks, nrm, O.pk, O.frz, mIf, mTB, mTru, mAnd, mOr, mNot, mOp1, mOp2, mOl1, mOl2, mTup, mLst, mLks, mDct, mDvs, mBi, mBl, mRs, mSm0, mSm1, mSl, mSlL, mPt, mIt, mItZ, zipR, mCall, asArgs, asArg, back, ofRes, mergeO, ofO, ofOS, sIf, sRet, sRetN, sPass, sExp, sAug, sUnp, sPar, sAsg2, sSto, sBrk, sCnt, sFor, sDrop, sMatch, mtL, mOs, setAll, sPut, mItK, mMut0, mMut1, wipeE, unwipe, lcEnd, mLc, mYes, mItS, mItR, mChain, mStar, mLstD, sSlSto, mCallV, mGet2, zipS, mBad, sBad, mNotV, mAndV, mOrV, Tg.put, putAll, List.map_cons, List.map_nil, List.replicate, List.cons_append, List.nil_append, List.getElem?_cons_zero, List.getElem?_cons_succ, Option.bind_some, List.set_cons_zero, List.set_cons_succ, List.take_succ_cons, List.take_zero, List.headD_cons, List.headD_nil, List.tail_cons, List.tail_nil, Option.map_some, Option.map_none, if_true, if_false, Bool.false_eq_true, ite_true, ite_false, Bool.not_true, Bool.not_false, Bool.true_and, Bool.false_and, List.contains, List.elem, List.append_nil, List.length_cons, List.length_nil, Nat.zero_add, Nat.reduceAdd, Nat.reduceLeDiff, lim, Nat.reduceBEq, beq_self_eq_true, Bool.and_self, mTru, q, w1, w2, g, tf, s2, s3, cu, e5, ii, st2]
      · rw [if_neg c2] at cu
        rw [decide_eq_false c2, Bool.false_and] at jd
        rw [k2' jd] at st2
        simp only [bodyT, runF, gdO, finR, endF, allO, sSeq, sSet, setR, sOf, leak, mNextS, andThen, mVar, mC, slot, peek, peeks, nrm, O.pk, O.frz, mIf, mTB, mTru, mAnd, mOr, mNot, mOp1, mOp2, mOl1, mOl2, mTup, mLst, mLks, mDct, mDvs, mBi, mBl, mRs, mSm0, mSm1, mSl, mSlL, mPt, mIt, mItZ, zipR, mCall, asArgs, asArg, back, ofRes, mergeO, ofO, ofOS, sIf, sRet, sRetN, sPass, sExp, sAug, sUnp, sPar, sAsg2, sSto, sBrk, sCnt, sFor, sDrop, sMatch, mtL, mOs, setAll, sPut, mItK, mMut0, mMut1, wipeE, unwipe, lcEnd, mLc, mYes, mItS, mItR, mChain, mStar, mLstD, sSlSto, mCallV, mGet2, zipS, mBad, sBad, mNotV, mAndV, mOrV, Tg.put, putAll, List.map_cons, List.map_nil, List.replicate, List.cons_append, List.nil_append, List.getElem?_cons_zero, List.getElem?_cons_succ, Option.bind_some, List.set_cons_zero, List.set_cons_succ, List.take_succ_cons, List.take_zero, List.headD_cons, List.headD_nil, List.tail_cons, List.tail_nil, Option.map_some, Option.map_none, if_true, if_false, Bool.false_eq_true, ite_true, ite_false, Bool.not_true, Bool.not_false, Bool.true_and, Bool.false_and, List.contains, List.elem, List.append_nil, List.length_cons, List.length_nil, Nat.zero_add, Nat.reduceAdd, Nat.reduceLeDiff, lim, Nat.reduceBEq, beq_self_eq_true, Bool.and_self, mTru, q, w1, w2, g, tf, s2, s3, cu, e6, ii, st2]
end F
end

section
set_option linter.all false
set_option autoImplicit false
set_option maxRecDepth 100000
set_option maxHeartbeats 1000000
/-! the law's digits, whole; its directions -/
namespace F
def kS (k : Kd) : Kd := if k = .c 83 then .c 78 else k
theorem eq_S (k : Kd) : eqD (encL k) (.str [83]) = some (.bl (decide (k = .c 83))) := by
  cases k with
  | c k =>
    show eqD (chD k) _ = _
    rw [eq_ch]
    congr 2
    by_cases h : k = 83
    · subst h
      rfl
    · rw [decide_eq_false h, decide_eq_false fun z => h (by cases z; rfl)]
  | pl => rfl
  | ea => rfl
theorem kS_eq (x : List Nat) {j : Nat} (hj : j < x.length) : kS (kL x j) = k2 x j := by
  unfold k2 kT kL
  rw [fill_all (tP_out) (k1 x) hj]
  by_cases h : tP x j = true
  · rw [if_pos h, if_pos h]
    have g : gx x j = 84 := of_decide_eq_true h
    have hk : k1 x j = .c 84 := by
      rcases k1_cases x j with ⟨_, q⟩ | ⟨q, _⟩
      · omega
      · rw [q, g]
    unfold vT
    by_cases c : joined x (lo (tP x) j) (hif (tP x) (x.length - j) j) = true
    · rw [if_pos c, if_pos c]
      rfl
    · rw [if_neg c, if_neg c, hk]
      rfl
  · rw [if_neg h, if_neg h]
    have g : gx x j ≠ 84 := fun z => h (decide_eq_true z)
    have hk : k1 x j ≠ .c 84 := by
      rcases k1_cases x j with ⟨q | q, _⟩ | ⟨q, _⟩
      · rw [q]
        intro z
        cases z
      · rw [q]
        intro z
        cases z
      · rw [q]
        exact fun z => g (Kd.c.inj z)
    unfold kS kN
    by_cases c : k1 x j = .c 83
    · rw [if_pos c, if_pos (.inl c)]
    · rw [if_neg c, if_neg fun z => z.elim c hk]
theorem z_ld (x : List Nat) (r : Bool) (hn : x.length ≤ 900) (hx : ∀ c ∈ x, c ∈ cl7) : Z__law_digits [.sh (.str x), .sh (.lst (tab x.length (stL x r)))] = .rt (.fl (tab x.length fun j => encL (k2 x j))) [.sh (.str x), .sh (.lst (tab x.length (stL x r)))] := by
  have l0 := ld_loop0 x r
  have l1 := ld_loop1 x (.lst (tab x.length (stL x r)))
  rw [kB_first] at l0
  rw [kB_last] at l1
  have l2 : forL (.tp [(.nm 3), (.nm 4)]) b__law_digits_4 ((List.range x.length).map fun i => F.D.tup [.int (i : Nat), chD (gx x i)]) [some (.sh (.str x)), some (.sh (.lst (tab x.length (stL x r)))), some (.fl (tab x.length (kC x 0))), none, none, none, none, none] = .nx [some (.sh (.str x)), some (.sh (.lst (tab x.length (stL x r)))), some (.fl (tab x.length (kC x x.length))), none, none, none, none, none] :=
    for_rng (enc := fun i => F.D.tup [.int (i : Nat), chD (gx x i)]) (g := fun i => [some (.sh (.str x)), some (.sh (.lst (tab x.length (stL x r)))), some (.fl (tab x.length (kC x i))), none, none, none, none, none]) fun i hi => ⟨_, rfl, ld_step x hn hx (.lst (tab x.length (stL x r))) i hi⟩
  have e0 : tab x.length (kC x 0) = tab x.length fun j => encL (k1 x j) := tab_congr fun j hj => by unfold kC; rw [if_neg (by omega)]
  have e1 : tab x.length (kC x x.length) = tab x.length fun j => encL (kL x j) := tab_congr fun j hj => by unfold kC; rw [if_pos hj]
  rw [e0, e1] at l2
  have lc := fun (e0 e1 e2 e3 e5 e6 e7 : Option O) => lc_map (enc := fun i => encL (kL x i)) (own := [4]) (t := .nm 4) (c := mYes) (v := (mIf (mTB (mOp2 eqD (mVar 4) (mC (.str [83])))) (mC (.str [78])) (mVar 4))) (e := [e0, e1, e2, e3, none, e5, e6, e7]) (f := fun i => encL (kS (kL x i))) (as := List.range x.length) (acc := []) fun i _ => by
    have h := eq_S (kL x i)
    show lcOne _ _ _ _ (encL (kL x i)) _ = some (some (encL (kS (kL x i))), _)
    unfold kS
    by_cases c : kL x i = .c 83
    · rw [decide_eq_true c] at h
      rw [if_pos c]
      generalize encL (kL x i) = d at *
      simp only [lcOne, runF, gdO, finR, endF, allO, sSeq, sSet, setR, sOf, leak, mNextS, andThen, mVar, mC, slot, peek, peeks, nrm, O.pk, O.frz, mIf, mTB, mTru, mAnd, mOr, mNot, mOp1, mOp2, mOl1, mOl2, mTup, mLst, mLks, mDct, mDvs, mBi, mBl, mRs, mSm0, mSm1, mSl, mSlL, mPt, mIt, mItZ, zipR, mCall, asArgs, asArg, back, ofRes, mergeO, ofO, ofOS, sIf, sRet, sRetN, sPass, sExp, sAug, sUnp, sPar, sAsg2, sSto, sBrk, sCnt, sFor, sDrop, sMatch, mtL, mOs, setAll, sPut, mItK, mMut0, mMut1, wipeE, unwipe, lcEnd, mLc, mYes, mItS, mItR, mChain, mStar, mLstD, sSlSto, mCallV, mGet2, zipS, mBad, sBad, mNotV, mAndV, mOrV, Tg.put, putAll, List.map_cons, List.map_nil, List.replicate, List.cons_append, List.nil_append, List.getElem?_cons_zero, List.getElem?_cons_succ, Option.bind_some, List.set_cons_zero, List.set_cons_succ, List.take_succ_cons, List.take_zero, List.headD_cons, List.headD_nil, List.tail_cons, List.tail_nil, Option.map_some, Option.map_none, if_true, if_false, Bool.false_eq_true, ite_true, ite_false, Bool.not_true, Bool.not_false, Bool.true_and, Bool.false_and, List.contains, List.elem, List.append_nil, List.length_cons, List.length_nil, Nat.zero_add, Nat.reduceAdd, Nat.reduceLeDiff, lim, Nat.reduceBEq, beq_self_eq_true, Bool.and_self, h, encL, chD]
    · rw [decide_eq_false c] at h
      rw [if_neg c]
      generalize encL (kL x i) = d at *
      simp only [lcOne, runF, gdO, finR, endF, allO, sSeq, sSet, setR, sOf, leak, mNextS, andThen, mVar, mC, slot, peek, peeks, nrm, O.pk, O.frz, mIf, mTB, mTru, mAnd, mOr, mNot, mOp1, mOp2, mOl1, mOl2, mTup, mLst, mLks, mDct, mDvs, mBi, mBl, mRs, mSm0, mSm1, mSl, mSlL, mPt, mIt, mItZ, zipR, mCall, asArgs, asArg, back, ofRes, mergeO, ofO, ofOS, sIf, sRet, sRetN, sPass, sExp, sAug, sUnp, sPar, sAsg2, sSto, sBrk, sCnt, sFor, sDrop, sMatch, mtL, mOs, setAll, sPut, mItK, mMut0, mMut1, wipeE, unwipe, lcEnd, mLc, mYes, mItS, mItR, mChain, mStar, mLstD, sSlSto, mCallV, mGet2, zipS, mBad, sBad, mNotV, mAndV, mOrV, Tg.put, putAll, List.map_cons, List.map_nil, List.replicate, List.cons_append, List.nil_append, List.getElem?_cons_zero, List.getElem?_cons_succ, Option.bind_some, List.set_cons_zero, List.set_cons_succ, List.take_succ_cons, List.take_zero, List.headD_cons, List.headD_nil, List.tail_cons, List.tail_nil, Option.map_some, Option.map_none, if_true, if_false, Bool.false_eq_true, ite_true, ite_false, Bool.not_true, Bool.not_false, Bool.true_and, Bool.false_and, List.contains, List.elem, List.append_nil, List.length_cons, List.length_nil, Nat.zero_add, Nat.reduceAdd, Nat.reduceLeDiff, lim, Nat.reduceBEq, beq_self_eq_true, Bool.and_self, h]
  have e2 : tab x.length (fun j => encL (kS (kL x j))) = tab x.length fun j => encL (k2 x j) := tab_congr fun j hj => by rw [kS_eq x hj]
  have lc : ∀ (e0 e1 e2 e3 e5 e6 e7 : Option O), lcL [4] (.nm 4) mYes (mIf (mTB (mOp2 eqD (mVar 4) (mC (.str [83])))) (mC (.str [78])) (mVar 4)) (tab x.length fun j => encL (kL x j)) [] [e0, e1, e2, e3, none, e5, e6, e7] = .ok (tab x.length fun j => encL (kS (kL x j))) [e0, e1, e2, e3, none, e5, e6, e7] := lc
  simp only [e2] at lc
  have ls := listS_x x
  have i := itES_x x
  rw [str_tab, enum_tab] at i
  have i : itES (.str x) = some ((List.range x.length).map fun i => F.D.tup [.int (i : Nat), chD (gx x i)]) := i
  have ls : listSD [.str x] = some (tab x.length (kA encL x 0)) := by rw [ls, str_tab]; rfl
  have ln := len_str x
  have sb := sub_int (x.length : Nat) 1
  have c := itR_x x (by omega)
  have rg := rng_x x
  have il := itL_x (tab x.length fun j => encL (kL x j))
  have hl : ((tab x.length fun j => encL (kL x j)).length ≤ 16777216) = True := eq_true (by rw [tab_len]; omega)
  generalize tab x.length (stL x r) = B at *
  generalize (tab x.length fun j => encL (k2 x j)) = T4 at *
  generalize (tab x.length fun j => encL (kL x j)) = T3 at *
  generalize (tab x.length fun j => encL (k1 x j)) = T2 at *
  generalize tab x.length (kB encL x 1) = T1 at *
  generalize tab x.length (kA encL x 0) = T0 at *
  generalize ((List.range x.length).map fun i => F.D.tup [.int (i : Nat), chD (gx x i)]) = I0 at *
  generalize ((List.range' 1 (x.length - 2)).map fun i => F.D.int (i : Nat)) = I1 at *
  generalize ((x.length : Nat) : Int) - 1 = L1 at *
  generalize ((x.length : Nat) : Int) = L0 at *
  simp only [Z__law_digits, m__law_digits, runF, gdO, finR, endF, allO, sSeq, sSet, setR, sOf, leak, mNextS, andThen, mVar, mC, slot, peek, peeks, nrm, O.pk, O.frz, mIf, mTB, mTru, mAnd, mOr, mNot, mOp1, mOp2, mOl1, mOl2, mTup, mLst, mLks, mDct, mDvs, mBi, mBl, mRs, mSm0, mSm1, mSl, mSlL, mPt, mIt, mItZ, zipR, mCall, asArgs, asArg, back, ofRes, mergeO, ofO, ofOS, sIf, sRet, sRetN, sPass, sExp, sAug, sUnp, sPar, sAsg2, sSto, sBrk, sCnt, sFor, sDrop, sMatch, mtL, mOs, setAll, sPut, mItK, mMut0, mMut1, wipeE, unwipe, lcEnd, mLc, mYes, mItS, mItR, mChain, mStar, mLstD, sSlSto, mCallV, mGet2, zipS, mBad, sBad, mNotV, mAndV, mOrV, Tg.put, putAll, List.map_cons, List.map_nil, List.replicate, List.cons_append, List.nil_append, List.getElem?_cons_zero, List.getElem?_cons_succ, Option.bind_some, List.set_cons_zero, List.set_cons_succ, List.take_succ_cons, List.take_zero, List.headD_cons, List.headD_nil, List.tail_cons, List.tail_nil, Option.map_some, Option.map_none, if_true, if_false, Bool.false_eq_true, ite_true, ite_false, Bool.not_true, Bool.not_false, Bool.true_and, Bool.false_and, List.contains, List.elem, List.append_nil, List.length_cons, List.length_nil, Nat.zero_add, Nat.reduceAdd, Nat.reduceLeDiff, lim, Nat.reduceBEq, beq_self_eq_true, Bool.and_self, ls, i, l0, ln, sb, c, rg, l1, l2, il, hl, lc]
/-! ways -/
theorem st_loop (x : List Nat) (r : Bool) (hn : x.length ≤ 1000) (e6 e7 e8 e9 e10 e11 e12 : Option O) : forL (.nm 5) b__law_relative_0 (x.map chD) [some (.sh (.str x)), some (.sh (.bl r)), some (.fl []), some (.sh (stL x r 0)), some (.fl []), none, e6, e7, e8, e9, e10, e11, e12] =
    .nx [some (.sh (.str x)), some (.sh (.bl r)), some (.fl (tab x.length (stL x r))), some (.sh (stL x r x.length)), some (.fl []), none, e6, e7, e8, e9, e10, e11, e12] := by
  rw [str_tab]
  refine for_rng (enc := fun i => chD (gx x i)) (g := fun i => [some (.sh (.str x)), some (.sh (.bl r)), some (.fl (tab i (stL x r))), some (.sh (stL x r i)), some (.fl []), none, e6, e7, e8, e9, e10, e11, e12]) fun i hi => ?_
  refine ⟨_, rfl, ?_⟩
  have h1 := in_ch (gx x i) [76, 82, 65]
  have ap := app_ok (tab i (stL x r)) (stL x r i) (by rw [tab_len]; omega)
  rw [← tab_succ] at ap
  have e : stL x r (i + 1) = if gx x i ∈ [76, 82, 65] then chD (gx x i) else stL x r i := by
    show chD ((if gx x i ∈ [76, 82, 65] then some (gx x i) else lastS x i).getD _) = _
    by_cases h : gx x i ∈ [76, 82, 65]
    · rw [if_pos h, if_pos h]
      rfl
    · rw [if_neg h, if_neg h]
      rfl
  rw [e]
  generalize tab (i + 1) (stL x r) = T1 at *
  generalize tab i (stL x r) = T0 at *
  generalize stL x r i = B0 at *
  by_cases hc : gx x i ∈ [76, 82, 65]
  · rw [decide_eq_true hc] at h1
    rw [if_pos hc]
    generalize gx x i = k at *
    simp only [b__law_relative_0, chD, runF, gdO, finR, endF, allO, sSeq, sSet, setR, sOf, leak, mNextS, andThen, mVar, mC, slot, peek, peeks, nrm, O.pk, O.frz, mIf, mTB, mTru, mAnd, mOr, mNot, mOp1, mOp2, mOl1, mOl2, mTup, mLst, mLks, mDct, mDvs, mBi, mBl, mRs, mSm0, mSm1, mSl, mSlL, mPt, mIt, mItZ, zipR, mCall, asArgs, asArg, back, ofRes, mergeO, ofO, ofOS, sIf, sRet, sRetN, sPass, sExp, sAug, sUnp, sPar, sAsg2, sSto, sBrk, sCnt, sFor, sDrop, sMatch, mtL, mOs, setAll, sPut, mItK, mMut0, mMut1, wipeE, unwipe, lcEnd, mLc, mYes, mItS, mItR, mChain, mStar, mLstD, sSlSto, mCallV, mGet2, zipS, mBad, sBad, mNotV, mAndV, mOrV, Tg.put, putAll, List.map_cons, List.map_nil, List.replicate, List.cons_append, List.nil_append, List.getElem?_cons_zero, List.getElem?_cons_succ, Option.bind_some, List.set_cons_zero, List.set_cons_succ, List.take_succ_cons, List.take_zero, List.headD_cons, List.headD_nil, List.tail_cons, List.tail_nil, Option.map_some, Option.map_none, if_true, if_false, Bool.false_eq_true, ite_true, ite_false, Bool.not_true, Bool.not_false, Bool.true_and, Bool.false_and, List.contains, List.elem, List.append_nil, List.length_cons, List.length_nil, Nat.zero_add, Nat.reduceAdd, Nat.reduceLeDiff, lim, Nat.reduceBEq, beq_self_eq_true, Bool.and_self, h1, ap]
  · rw [decide_eq_false hc] at h1
    rw [if_neg hc]
    generalize gx x i = k at *
    simp only [b__law_relative_0, chD, runF, gdO, finR, endF, allO, sSeq, sSet, setR, sOf, leak, mNextS, andThen, mVar, mC, slot, peek, peeks, nrm, O.pk, O.frz, mIf, mTB, mTru, mAnd, mOr, mNot, mOp1, mOp2, mOl1, mOl2, mTup, mLst, mLks, mDct, mDvs, mBi, mBl, mRs, mSm0, mSm1, mSl, mSlL, mPt, mIt, mItZ, zipR, mCall, asArgs, asArg, back, ofRes, mergeO, ofO, ofOS, sIf, sRet, sRetN, sPass, sExp, sAug, sUnp, sPar, sAsg2, sSto, sBrk, sCnt, sFor, sDrop, sMatch, mtL, mOs, setAll, sPut, mItK, mMut0, mMut1, wipeE, unwipe, lcEnd, mLc, mYes, mItS, mItR, mChain, mStar, mLstD, sSlSto, mCallV, mGet2, zipS, mBad, sBad, mNotV, mAndV, mOrV, Tg.put, putAll, List.map_cons, List.map_nil, List.replicate, List.cons_append, List.nil_append, List.getElem?_cons_zero, List.getElem?_cons_succ, Option.bind_some, List.set_cons_zero, List.set_cons_succ, List.take_succ_cons, List.take_zero, List.headD_cons, List.headD_nil, List.tail_cons, List.tail_nil, Option.map_some, Option.map_none, if_true, if_false, Bool.false_eq_true, ite_true, ite_false, Bool.not_true, Bool.not_false, Bool.true_and, Bool.false_and, List.contains, List.elem, List.append_nil, List.length_cons, List.length_nil, Nat.zero_add, Nat.reduceAdd, Nat.reduceLeDiff, lim, Nat.reduceBEq, beq_self_eq_true, Bool.and_self, h1, ap]
def wv (x : List Nat) (r : Bool) (i : Nat) : Nat := (w0 x r i).getD 2
theorem b1_lt (b : Bool) : b1 b < 2 := by cases b <;> decide
theorem w0_lt {x : List Nat} {r : Bool} {i v : Nat} (h : w0 x r i = some v) : v < 2 := by
  unfold w0 at h
  split at h
  · cases h
    exact b1_lt _
  · split at h
    · cases h
    · cases h
      exact b1_lt _
theorem k2_cases {x : List Nat} (hx : ∀ c ∈ x, c ∈ cl7) {i : Nat} (hi : i < x.length) : k2 x i = .pl ∨ k2 x i = .ea ∨ k2 x i = .c 76 ∨ k2 x i = .c 82 ∨ k2 x i = .c 65 ∨ k2 x i = .c 78 := by
  rw [← kS_eq x hi]
  unfold kL
  by_cases h : tP x i = true
  · rw [if_pos h]
    split
    · exact .inl rfl
    · exact .inr (.inr (.inr (.inr (.inr rfl))))
  · rw [if_neg h]
    have g : gx x i ≠ 84 := fun z => h (decide_eq_true z)
    rcases k1_cases x i with ⟨q | q, _⟩ | ⟨q, n⟩
    · rw [q]
      exact .inl rfl
    · rw [q]
      exact .inr (.inl rfl)
    · rw [q]
      have m := gx_in hx hi
      generalize gx x i = k at *
      simp only [List.mem_cons, List.not_mem_nil, or_false] at m
      rcases m with rfl | rfl | rfl | rfl | rfl | rfl | rfl
      · exact .inr (.inr (.inl rfl))
      · exact .inr (.inr (.inr (.inl rfl)))
      · exact .inr (.inr (.inr (.inr (.inl rfl))))
      · exact absurd rfl n
      · exact .inr (.inr (.inr (.inr (.inr rfl))))
      · exact absurd rfl g
      · exact .inr (.inr (.inr (.inr (.inr rfl))))
theorem st_dir (x : List Nat) (r : Bool) (i : Nat) : neD (stL x r i) (.str [76]) = some (.bl (dirB x r i)) := by
  unfold stL stC dirB
  rw [ne_ch]
  cases lastS x i with
  | none => cases r <;> rfl
  | some c => rfl
abbrev dct4 : List (Ky × F.D) := [(.s [76], .int 0), (.s [82], .int 1), (.s [65], .int 1), (.s [78], .int 2)]
theorem get_w {x : List Nat} (hx : ∀ c ∈ x, c ∈ cl7) (r : Bool) {i : Nat} (hi : i < x.length) : getD dct4 (encL (k2 x i)) (.int (b1 (dirB x r i) : Nat)) = some (.int (wv x r i : Nat)) := by
  unfold wv w0
  rcases k2_cases hx hi with h | h | h | h | h | h <;> rw [h] <;> rfl
/-! ahead, behind -/
def ah (x : List Nat) (r : Bool) : Nat → Nat
  | 0 => b1 r
  | i + 1 => if wv x r i < 2 then wv x r i else ah x r i
def bh (x : List Nat) (r : Bool) : Nat → Nat → Nat
  | 0, _ => b1 r
  | m + 1, i => if wv x r i < 2 then wv x r i else bh x r m (i + 1)
theorem w_none {x : List Nat} {r : Bool} {i : Nat} (h : w0 x r i = none) : wv x r i = 2 := by unfold wv; rw [h]; rfl
theorem w_some {x : List Nat} {r : Bool} {i v : Nat} (h : w0 x r i = some v) : wv x r i = v ∧ wv x r i < 2 := by
  have e : wv x r i = v := by unfold wv; rw [h]; rfl
  exact ⟨e, by rw [e]; exact w0_lt h⟩
theorem wP_none {x : List Nat} {r : Bool} {i : Nat} (hi : i < x.length) (h : w0 x r i = none) : wP x r i = true := by unfold wP; rw [h, decide_eq_true hi]; rfl
theorem wP_some {x : List Nat} {r : Bool} {i v : Nat} (h : w0 x r i = some v) : wP x r i = false := by unfold wP; rw [h]; exact Bool.and_false _
theorem aO_eq (x : List Nat) (r : Bool) : ∀ i, i ≤ x.length → aO x r (lo (wP x r) i) = some (ah x r i)
  | 0, _ => rfl
  | i + 1, hi => by
    have ih := aO_eq x r i (by omega)
    show aO x r (if wP x r i = true then lo (wP x r) i else i + 1) = some (if wv x r i < 2 then wv x r i else ah x r i)
    cases h : w0 x r i with
    | none =>
      rw [if_pos (wP_none (by omega) h), if_neg (by rw [w_none h]; decide)]
      exact ih
    | some v =>
      rw [if_neg (by rw [wP_some h]; decide), if_pos (w_some h).2]
      unfold aO
      rw [if_pos (by omega), Nat.add_sub_cancel, h, (w_some h).1]
theorem bO_eq (x : List Nat) (r : Bool) : ∀ m i, i + m = x.length → bO x r (hif (wP x r) m i) = some (bh x r m i)
  | 0, i, h => by
    show bO x r i = some (b1 r)
    unfold bO
    rw [if_neg (by omega)]
  | m + 1, i, hi => by
    have ih := bO_eq x r m (i + 1) (by omega)
    show bO x r (if wP x r i = true then hif (wP x r) m (i + 1) else i) = some (if wv x r i < 2 then wv x r i else bh x r m (i + 1))
    cases h : w0 x r i with
    | none =>
      rw [if_pos (wP_none (by omega) h), if_neg (by rw [w_none h]; decide)]
      exact ih
    | some v =>
      rw [if_neg (by rw [wP_some h]; decide), if_pos (w_some h).2]
      unfold bO
      rw [if_pos (by omega), h, (w_some h).1]
/-- the direction told -/
def wy (x : List Nat) (r : Bool) (i : Nat) : Nat := if wv x r i = 2 then (if ah x r i = bh x r (x.length - i) i then ah x r i else b1 r) else wv x r i
theorem told_eq (x : List Nat) (r : Bool) {i : Nat} (hi : i < x.length) : told x r i = some (wy x r i) := by
  unfold told wy
  rw [fill_all (fun j hj => wP_out j hj) (w0 x r) hi]
  cases h : w0 x r i with
  | none =>
    rw [if_pos (wP_none hi h), if_pos (w_none h)]
    show (if aO x r (lo (wP x r) i) = bO x r (hif (wP x r) (x.length - i) i) then aO x r (lo (wP x r) i) else some (b1 r)) = _
    rw [aO_eq x r i (by omega), bO_eq x r (x.length - i) i (by omega)]
    by_cases c : ah x r i = bh x r (x.length - i) i
    · rw [if_pos c, if_pos (by rw [c])]
    · rw [if_neg c, if_neg fun z => c (Option.some.inj z)]
  | some v =>
    have := (w_some h).2
    rw [if_neg (by rw [wP_some h]; decide), if_neg (by omega), (w_some h).1]
def fD (x : List Nat) (r : Bool) (i : Nat) : Option F.D := if wv x r i < 2 then some (.int (wv x r i : Nat)) else none
theorem last_ah (x : List Nat) (r : Bool) : ∀ i, ∃ t, ((List.range i).filterMap (fD x r)).getLast?.toList ++ [.int (b1 r : Nat)] = .int (ah x r i : Nat) :: t
  | 0 => ⟨[], rfl⟩
  | i + 1 => by
    obtain ⟨t, ih⟩ := last_ah x r i
    rw [List.range_succ, List.filterMap_append]
    show ∃ t, _ = F.D.int ((if wv x r i < 2 then wv x r i else ah x r i : Nat) : Int) :: t
    by_cases h : wv x r i < 2
    · rw [if_pos h]
      have : [i].filterMap (fD x r) = [.int (wv x r i : Nat)] := by
        simp only [List.filterMap_cons, List.filterMap_nil, fD, if_pos h]
      rw [this, List.getLast?_concat]
      exact ⟨_, rfl⟩
    · rw [if_neg h]
      have : [i].filterMap (fD x r) = [] := by
        simp only [List.filterMap_cons, List.filterMap_nil, fD, if_neg h]
      rw [this, List.append_nil]
      exact ⟨t, ih⟩
theorem head_bh (x : List Nat) (r : Bool) : ∀ m i, ∃ t, ((List.range' i m).filterMap (fD x r)).take 1 ++ [.int (b1 r : Nat)] = .int (bh x r m i : Nat) :: t
  | 0, i => ⟨[], rfl⟩
  | m + 1, i => by
    obtain ⟨t, ih⟩ := head_bh x r m (i + 1)
    rw [List.range'_succ, List.filterMap_cons]
    show ∃ t, _ = F.D.int ((if wv x r i < 2 then wv x r i else bh x r m (i + 1) : Nat) : Int) :: t
    by_cases h : wv x r i < 2
    · have : fD x r i = some (.int (wv x r i : Nat)) := if_pos h
      rw [if_pos h, this]
      exact ⟨_, rfl⟩
    · have : fD x r i = none := if_neg h
      rw [if_neg h, this]
      exact ⟨t, ih⟩
theorem cut_last (l : List F.D) : cut l (some (-1)) none = l.getLast?.toList := by
  unfold cut
  have h1 : cutI l.length 0 (some (-1)) = l.length - 1 := by
    show (if (-1 : Int) < 0 then ((-1 : Int) + (l.length : Int)).toNat else min (-1 : Int).toNat l.length) = _
    rw [if_pos (by decide)]
    omega
  rw [h1, show cutI l.length l.length none = l.length from rfl]
  rcases List.eq_nil_or_concat l with rfl | ⟨t, d, rfl⟩
  · rfl
  · rw [List.concat_eq_append, List.getLast?_concat, List.length_append]
    simp
theorem cut_first (l : List F.D) : cut l none (some 1) = l.take 1 := by
  unfold cut
  have h1 : cutI l.length l.length (some 1) = min 1 l.length := rfl
  rw [h1]
  show (l.drop 0).take (min 1 l.length - 0) = _
  rw [List.drop_zero, Nat.sub_zero]
  cases l with
  | nil => rfl
  | cons a l =>
    have : min 1 (a :: l).length = 1 := by simp only [List.length_cons]; omega
    rw [this]
theorem drop_rng (i : Nat) : ∀ s n, (List.range' s n).drop i = List.range' (s + i) (n - i) := by
  induction i with
  | zero => intro s n; rfl
  | succ i ih =>
    intro s n
    cases n with
    | zero => rw [List.range'_zero, List.drop_nil, Nat.zero_sub]; rfl
    | succ n =>
      rw [List.range'_succ, List.drop_succ_cons, ih, show s + 1 + i = s + (i + 1) by omega, Nat.add_sub_add_right]
end F
end

section
set_option linter.all false
set_option autoImplicit false
set_option maxRecDepth 100000
set_option maxHeartbeats 1000000
/-! the law's levels -/
namespace F
abbrev tailR : MS := (sIf (mTru (mVar 1)) (sExp (mMut1 4 appF (mBi intD [(mOrV (mOp2 inD (mVar 9) (mC (.str [100, 101]))) (mOp2 eqD (mVar 12) (mC (.int 0))))]))) (sExp (mMut1 4 appF (mIf (mAnd (mTB (mOp2 inD (mVar 9) (mC (.str [100, 101])))) (mTB (mOp2 eqD (mVar 12) (mC (.int 1))))) (mC (.int 2)) (mVar 12)))))
abbrev bodyR (T : MS) : MS := (sDrop (sSeq (sSet 10 (mOl2 catL (mSlL slL (mLc [12] (.nm 12) (mIt itL (mSlL slL (mVar 7) none (some (mVar 8)))) (mTB (mOp2 ltD (mVar 12) (mC (.int 2)))) (mVar 12)) (some (mOp1 negD (mC (.int 1)))) none) (mLst [(mBi intD [(mVar 1)])])))
  (sSeq (sSet 11 (mOl2 catL (mSlL slL (mLc [12] (.nm 12) (mIt itL (mSlL slL (mVar 7) (some (mVar 8)) none)) (mTB (mOp2 ltD (mVar 12) (mC (.int 2)))) (mVar 12)) none (some (mC (.int 1)))) (mLst [(mBi intD [(mVar 1)])])))
  (sSeq (sSet 12 (mOp2 ixD (mVar 7) (mVar 8)))
  (sSeq (sIf (mTB (mOp2 eqD (mVar 12) (mC (.int 2)))) (sSet 12 (mIf (mTB (mOp2 eqD (mOp2 ixD (mVar 10) (mC (.int 0))) (mOp2 ixD (mVar 11) (mC (.int 0))))) (mOp2 ixD (mVar 10) (mC (.int 0))) (mBi intD [(mVar 1)]))) sPass)
  T)))) [8, 9, 10, 11, 12])
theorem bodyR_eq : b__law_relative_1 = bodyR tailR := rfl
theorem in_de {x : List Nat} (hx : ∀ c ∈ x, c ∈ cl7) {i : Nat} (hi : i < x.length) : inD (encL (k2 x i)) (.str [100, 101]) = some (.bl (dig (k2 x i))) := by
  rcases k2_cases hx hi with h | h | h | h | h | h <;> rw [h] <;> rfl
theorem eq_nat (a b : Nat) : eqD (.int (a : Nat)) (.int (b : Nat)) = some (.bl (decide (a = b))) := by
  rw [eq_int]
  by_cases h : a = b
  · subst h
    simp
  · rw [decide_eq_false h, beq_eq_false_iff_ne.mpr fun z => h (by omega)]
theorem tail_ok {x : List Nat} (hx : ∀ c ∈ x, c ∈ cl7) (r : Bool) (hn : x.length ≤ 900) {i : Nat} (hi : i < x.length) (e0 e2 e3 e5 e6 e7 e8 e10 e11 : Option O) :
    tailR [e0, some (.sh (.bl r)), e2, e3, some (.fl (tab i (lev x r))), e5, e6, e7, e8, some (.sh (encL (k2 x i))), e10, e11, some (.sh (.int (wy x r i : Nat)))] = .nx [e0, some (.sh (.bl r)), e2, e3, some (.fl (tab (i + 1) (lev x r))), e5, e6, e7, e8, some (.sh (encL (k2 x i))), e10, e11, some (.sh (.int (wy x r i : Nat)))] := by
  have ap := app_ok (tab i (lev x r)) (lev x r i) (by rw [tab_len]; omega)
  rw [← tab_succ] at ap
  have q1 := in_de hx hi
  have q2 : eqD (.int (wy x r i : Nat)) (.int 0) = _ := eq_nat (wy x r i) 0
  have q3 : eqD (.int (wy x r i : Nat)) (.int 1) = _ := eq_nat (wy x r i) 1
  have t := int_b1' (dig (k2 x i) || decide (wy x r i = 0))
  generalize tab (i + 1) (lev x r) = T1 at *
  generalize tab i (lev x r) = T0 at *
  unfold lev at ap
  rw [told_eq x r hi] at ap
  have e0' : decide ((some (wy x r i) : Option Nat) = some 0) = decide (wy x r i = 0) := by simp
  rw [e0'] at ap
  have e1' : optD (some (wy x r i)) = .int (wy x r i : Nat) := rfl
  rw [e1'] at ap
  generalize encL (k2 x i) = k at *
  cases r with
  | true =>
    rw [if_pos rfl] at ap
    have tr : truD (.bl true) = some true := rfl
    cases hd : dig (k2 x i) with
    | true =>
      rw [hd, Bool.true_or] at t ap
      rw [hd] at q1
      generalize ((wy x true i : Nat) : Int) = v at *
      generalize ((b1 true : Nat) : Int) = z at *
      simp only [tailR, runF, gdO, finR, endF, allO, sSeq, sSet, setR, sOf, leak, mNextS, andThen, mVar, mC, slot, peek, peeks, nrm, O.pk, O.frz, mIf, mTB, mTru, mAnd, mOr, mNot, mOp1, mOp2, mOl1, mOl2, mTup, mLst, mLks, mDct, mDvs, mBi, mBl, mRs, mSm0, mSm1, mSl, mSlL, mPt, mIt, mItZ, zipR, mCall, asArgs, asArg, back, ofRes, mergeO, ofO, ofOS, sIf, sRet, sRetN, sPass, sExp, sAug, sUnp, sPar, sAsg2, sSto, sBrk, sCnt, sFor, sDrop, sMatch, mtL, mOs, setAll, sPut, mItK, mMut0, mMut1, wipeE, unwipe, lcEnd, mLc, mYes, mItS, mItR, mChain, mStar, mLstD, sSlSto, mCallV, mGet2, zipS, mBad, sBad, mNotV, mAndV, mOrV, Tg.put, putAll, List.map_cons, List.map_nil, List.replicate, List.cons_append, List.nil_append, List.getElem?_cons_zero, List.getElem?_cons_succ, Option.bind_some, List.set_cons_zero, List.set_cons_succ, List.take_succ_cons, List.take_zero, List.headD_cons, List.headD_nil, List.tail_cons, List.tail_nil, Option.map_some, Option.map_none, if_true, if_false, Bool.false_eq_true, ite_true, ite_false, Bool.not_true, Bool.not_false, Bool.true_and, Bool.false_and, List.contains, List.elem, List.append_nil, List.length_cons, List.length_nil, Nat.zero_add, Nat.reduceAdd, Nat.reduceLeDiff, lim, Nat.reduceBEq, beq_self_eq_true, Bool.and_self, mTru, tr, q1, t, ap]
    | false =>
      rw [hd, Bool.false_or] at t ap
      rw [hd] at q1
      generalize ((wy x true i : Nat) : Int) = v at *
      generalize decide (wy x true i = 0) = d at *
      generalize ((b1 d : Nat) : Int) = z at *
      simp only [tailR, runF, gdO, finR, endF, allO, sSeq, sSet, setR, sOf, leak, mNextS, andThen, mVar, mC, slot, peek, peeks, nrm, O.pk, O.frz, mIf, mTB, mTru, mAnd, mOr, mNot, mOp1, mOp2, mOl1, mOl2, mTup, mLst, mLks, mDct, mDvs, mBi, mBl, mRs, mSm0, mSm1, mSl, mSlL, mPt, mIt, mItZ, zipR, mCall, asArgs, asArg, back, ofRes, mergeO, ofO, ofOS, sIf, sRet, sRetN, sPass, sExp, sAug, sUnp, sPar, sAsg2, sSto, sBrk, sCnt, sFor, sDrop, sMatch, mtL, mOs, setAll, sPut, mItK, mMut0, mMut1, wipeE, unwipe, lcEnd, mLc, mYes, mItS, mItR, mChain, mStar, mLstD, sSlSto, mCallV, mGet2, zipS, mBad, sBad, mNotV, mAndV, mOrV, Tg.put, putAll, List.map_cons, List.map_nil, List.replicate, List.cons_append, List.nil_append, List.getElem?_cons_zero, List.getElem?_cons_succ, Option.bind_some, List.set_cons_zero, List.set_cons_succ, List.take_succ_cons, List.take_zero, List.headD_cons, List.headD_nil, List.tail_cons, List.tail_nil, Option.map_some, Option.map_none, if_true, if_false, Bool.false_eq_true, ite_true, ite_false, Bool.not_true, Bool.not_false, Bool.true_and, Bool.false_and, List.contains, List.elem, List.append_nil, List.length_cons, List.length_nil, Nat.zero_add, Nat.reduceAdd, Nat.reduceLeDiff, lim, Nat.reduceBEq, beq_self_eq_true, Bool.and_self, mTru, tr, q1, q2, t, ap]
  | false =>
    rw [if_neg (by decide)] at ap
    have tr : truD (.bl false) = some false := rfl
    cases hd : dig (k2 x i) with
    | true =>
      rw [hd] at q1 ap
      by_cases h : wy x false i = 1
      · rw [if_pos ⟨rfl, by rw [h]⟩] at ap
        rw [decide_eq_true h] at q3
        generalize ((wy x false i : Nat) : Int) = v at *
        simp only [tailR, runF, gdO, finR, endF, allO, sSeq, sSet, setR, sOf, leak, mNextS, andThen, mVar, mC, slot, peek, peeks, nrm, O.pk, O.frz, mIf, mTB, mTru, mAnd, mOr, mNot, mOp1, mOp2, mOl1, mOl2, mTup, mLst, mLks, mDct, mDvs, mBi, mBl, mRs, mSm0, mSm1, mSl, mSlL, mPt, mIt, mItZ, zipR, mCall, asArgs, asArg, back, ofRes, mergeO, ofO, ofOS, sIf, sRet, sRetN, sPass, sExp, sAug, sUnp, sPar, sAsg2, sSto, sBrk, sCnt, sFor, sDrop, sMatch, mtL, mOs, setAll, sPut, mItK, mMut0, mMut1, wipeE, unwipe, lcEnd, mLc, mYes, mItS, mItR, mChain, mStar, mLstD, sSlSto, mCallV, mGet2, zipS, mBad, sBad, mNotV, mAndV, mOrV, Tg.put, putAll, List.map_cons, List.map_nil, List.replicate, List.cons_append, List.nil_append, List.getElem?_cons_zero, List.getElem?_cons_succ, Option.bind_some, List.set_cons_zero, List.set_cons_succ, List.take_succ_cons, List.take_zero, List.headD_cons, List.headD_nil, List.tail_cons, List.tail_nil, Option.map_some, Option.map_none, if_true, if_false, Bool.false_eq_true, ite_true, ite_false, Bool.not_true, Bool.not_false, Bool.true_and, Bool.false_and, List.contains, List.elem, List.append_nil, List.length_cons, List.length_nil, Nat.zero_add, Nat.reduceAdd, Nat.reduceLeDiff, lim, Nat.reduceBEq, beq_self_eq_true, Bool.and_self, mTru, tr, q1, q3, ap]
      · rw [if_neg fun z => h (Option.some.inj z.2)] at ap
        rw [decide_eq_false h] at q3
        generalize ((wy x false i : Nat) : Int) = v at *
        simp only [tailR, runF, gdO, finR, endF, allO, sSeq, sSet, setR, sOf, leak, mNextS, andThen, mVar, mC, slot, peek, peeks, nrm, O.pk, O.frz, mIf, mTB, mTru, mAnd, mOr, mNot, mOp1, mOp2, mOl1, mOl2, mTup, mLst, mLks, mDct, mDvs, mBi, mBl, mRs, mSm0, mSm1, mSl, mSlL, mPt, mIt, mItZ, zipR, mCall, asArgs, asArg, back, ofRes, mergeO, ofO, ofOS, sIf, sRet, sRetN, sPass, sExp, sAug, sUnp, sPar, sAsg2, sSto, sBrk, sCnt, sFor, sDrop, sMatch, mtL, mOs, setAll, sPut, mItK, mMut0, mMut1, wipeE, unwipe, lcEnd, mLc, mYes, mItS, mItR, mChain, mStar, mLstD, sSlSto, mCallV, mGet2, zipS, mBad, sBad, mNotV, mAndV, mOrV, Tg.put, putAll, List.map_cons, List.map_nil, List.replicate, List.cons_append, List.nil_append, List.getElem?_cons_zero, List.getElem?_cons_succ, Option.bind_some, List.set_cons_zero, List.set_cons_succ, List.take_succ_cons, List.take_zero, List.headD_cons, List.headD_nil, List.tail_cons, List.tail_nil, Option.map_some, Option.map_none, if_true, if_false, Bool.false_eq_true, ite_true, ite_false, Bool.not_true, Bool.not_false, Bool.true_and, Bool.false_and, List.contains, List.elem, List.append_nil, List.length_cons, List.length_nil, Nat.zero_add, Nat.reduceAdd, Nat.reduceLeDiff, lim, Nat.reduceBEq, beq_self_eq_true, Bool.and_self, mTru, tr, q1, q3, ap]
    | false =>
      rw [hd] at q1 ap
      rw [if_neg fun z => by cases z.1] at ap
      generalize ((wy x false i : Nat) : Int) = v at *
      simp only [tailR, runF, gdO, finR, endF, allO, sSeq, sSet, setR, sOf, leak, mNextS, andThen, mVar, mC, slot, peek, peeks, nrm, O.pk, O.frz, mIf, mTB, mTru, mAnd, mOr, mNot, mOp1, mOp2, mOl1, mOl2, mTup, mLst, mLks, mDct, mDvs, mBi, mBl, mRs, mSm0, mSm1, mSl, mSlL, mPt, mIt, mItZ, zipR, mCall, asArgs, asArg, back, ofRes, mergeO, ofO, ofOS, sIf, sRet, sRetN, sPass, sExp, sAug, sUnp, sPar, sAsg2, sSto, sBrk, sCnt, sFor, sDrop, sMatch, mtL, mOs, setAll, sPut, mItK, mMut0, mMut1, wipeE, unwipe, lcEnd, mLc, mYes, mItS, mItR, mChain, mStar, mLstD, sSlSto, mCallV, mGet2, zipS, mBad, sBad, mNotV, mAndV, mOrV, Tg.put, putAll, List.map_cons, List.map_nil, List.replicate, List.cons_append, List.nil_append, List.getElem?_cons_zero, List.getElem?_cons_succ, Option.bind_some, List.set_cons_zero, List.set_cons_succ, List.take_succ_cons, List.take_zero, List.headD_cons, List.headD_nil, List.tail_cons, List.tail_nil, Option.map_some, Option.map_none, if_true, if_false, Bool.false_eq_true, ite_true, ite_false, Bool.not_true, Bool.not_false, Bool.true_and, Bool.false_and, List.contains, List.elem, List.append_nil, List.length_cons, List.length_nil, Nat.zero_add, Nat.reduceAdd, Nat.reduceLeDiff, lim, Nat.reduceBEq, beq_self_eq_true, Bool.and_self, mTru, tr, q1, ap]
theorem lc_w (x : List Nat) (r : Bool) (as : List Nat) (e0 e1 e2 e3 e4 e5 e6 e7 e8 e9 e10 e11 : Option O) : lcL [12] (.nm 12) (mTB (mOp2 ltD (mVar 12) (mC (.int 2)))) (mVar 12) (as.map fun i => F.D.int (wv x r i : Nat)) [] [e0, e1, e2, e3, e4, e5, e6, e7, e8, e9, e10, e11, none] =
    .ok (as.filterMap (fD x r)) [e0, e1, e2, e3, e4, e5, e6, e7, e8, e9, e10, e11, none] := by
  have h := lc_fm (enc := fun i => F.D.int (wv x r i : Nat)) (own := [12]) (t := .nm 12) (c := mTB (mOp2 ltD (mVar 12) (mC (.int 2)))) (v := mVar 12) (e := [e0, e1, e2, e3, e4, e5, e6, e7, e8, e9, e10, e11, none]) (f := fD x r) (as := as) (acc := []) (fun c _ => by
    have h1 := lt_int (wv x r c : Nat) 2
    unfold fD
    by_cases hb : wv x r c < 2
    · rw [decide_eq_true (by omega)] at h1
      rw [if_pos hb]
      generalize ((wv x r c : Nat) : Int) = k at *
      simp only [lcOne, runF, gdO, finR, endF, allO, sSeq, sSet, setR, sOf, leak, mNextS, andThen, mVar, mC, slot, peek, peeks, nrm, O.pk, O.frz, mIf, mTB, mTru, mAnd, mOr, mNot, mOp1, mOp2, mOl1, mOl2, mTup, mLst, mLks, mDct, mDvs, mBi, mBl, mRs, mSm0, mSm1, mSl, mSlL, mPt, mIt, mItZ, zipR, mCall, asArgs, asArg, back, ofRes, mergeO, ofO, ofOS, sIf, sRet, sRetN, sPass, sExp, sAug, sUnp, sPar, sAsg2, sSto, sBrk, sCnt, sFor, sDrop, sMatch, mtL, mOs, setAll, sPut, mItK, mMut0, mMut1, wipeE, unwipe, lcEnd, mLc, mYes, mItS, mItR, mChain, mStar, mLstD, sSlSto, mCallV, mGet2, zipS, mBad, sBad, mNotV, mAndV, mOrV, Tg.put, putAll, List.map_cons, List.map_nil, List.replicate, List.cons_append, List.nil_append, List.getElem?_cons_zero, List.getElem?_cons_succ, Option.bind_some, List.set_cons_zero, List.set_cons_succ, List.take_succ_cons, List.take_zero, List.headD_cons, List.headD_nil, List.tail_cons, List.tail_nil, Option.map_some, Option.map_none, if_true, if_false, Bool.false_eq_true, ite_true, ite_false, Bool.not_true, Bool.not_false, Bool.true_and, Bool.false_and, List.contains, List.elem, List.append_nil, List.length_cons, List.length_nil, Nat.zero_add, Nat.reduceAdd, Nat.reduceLeDiff, lim, Nat.reduceBEq, beq_self_eq_true, Bool.and_self, h1]
    · rw [decide_eq_false (by omega)] at h1
      rw [if_neg hb]
      generalize ((wv x r c : Nat) : Int) = k at *
      simp only [lcOne, runF, gdO, finR, endF, allO, sSeq, sSet, setR, sOf, leak, mNextS, andThen, mVar, mC, slot, peek, peeks, nrm, O.pk, O.frz, mIf, mTB, mTru, mAnd, mOr, mNot, mOp1, mOp2, mOl1, mOl2, mTup, mLst, mLks, mDct, mDvs, mBi, mBl, mRs, mSm0, mSm1, mSl, mSlL, mPt, mIt, mItZ, zipR, mCall, asArgs, asArg, back, ofRes, mergeO, ofO, ofOS, sIf, sRet, sRetN, sPass, sExp, sAug, sUnp, sPar, sAsg2, sSto, sBrk, sCnt, sFor, sDrop, sMatch, mtL, mOs, setAll, sPut, mItK, mMut0, mMut1, wipeE, unwipe, lcEnd, mLc, mYes, mItS, mItR, mChain, mStar, mLstD, sSlSto, mCallV, mGet2, zipS, mBad, sBad, mNotV, mAndV, mOrV, Tg.put, putAll, List.map_cons, List.map_nil, List.replicate, List.cons_append, List.nil_append, List.getElem?_cons_zero, List.getElem?_cons_succ, Option.bind_some, List.set_cons_zero, List.set_cons_succ, List.take_succ_cons, List.take_zero, List.headD_cons, List.headD_nil, List.tail_cons, List.tail_nil, Option.map_some, Option.map_none, if_true, if_false, Bool.false_eq_true, ite_true, ite_false, Bool.not_true, Bool.not_false, Bool.true_and, Bool.false_and, List.contains, List.elem, List.append_nil, List.length_cons, List.length_nil, Nat.zero_add, Nat.reduceAdd, Nat.reduceLeDiff, lim, Nat.reduceBEq, beq_self_eq_true, Bool.and_self, h1])
  rw [h, List.nil_append]
theorem lr_step {x : List Nat} (hx : ∀ c ∈ x, c ∈ cl7) (r : Bool) (hn : x.length ≤ 900) (S M : F.D) {i : Nat} (hi : i < x.length) :
    b__law_relative_1 [some (.sh (.str x)), some (.sh (.bl r)), some (.sh S), none, some (.fl (tab i (lev x r))), none, some (.sh M), some (.fl (tab x.length fun i => .int (wv x r i : Nat))), some (.sh (.int (i : Nat))), some (.sh (encL (k2 x i))), none, none, none] =
      .nx [some (.sh (.str x)), some (.sh (.bl r)), some (.sh S), none, some (.fl (tab (i + 1) (lev x r))), none, some (.sh M), some (.fl (tab x.length fun i => .int (wv x r i : Nat))), none, none, none, none, none] := by
  rw [bodyR_eq]
  have tl := fun e0 e2 e3 e5 e6 e7 e8 e10 e11 => tail_ok hx r hn hi e0 e2 e3 e5 e6 e7 e8 e10 e11
  have c1 : slL (.lst (tab x.length fun i => .int (wv x r i : Nat))) none (some (i : Nat)) = some ((List.range i).map fun i => F.D.int (wv x r i : Nat)) := by
    show some (cut _ _ _) = _
    rw [cut_to _ _ (by rw [tab_len]; omega), take_tab _ (by omega)]
    rfl
  have c2 : slL (.lst (tab x.length fun i => .int (wv x r i : Nat))) (some (i : Nat)) none = some ((List.range' i (x.length - i)).map fun i => F.D.int (wv x r i : Nat)) := by
    show some (cut _ _ _) = _
    rw [cut_fr _ _ (by rw [tab_len]; omega), tab, ← List.map_drop, List.range_eq_range', drop_rng, Nat.zero_add]
  have i1 := itL_x ((List.range i).map fun i => F.D.int (wv x r i : Nat))
  have i2 := itL_x ((List.range' i (x.length - i)).map fun i => F.D.int (wv x r i : Nat))
  have h1 : (((List.range i).map fun i => F.D.int (wv x r i : Nat)).length ≤ 16777216) = True := eq_true (by rw [List.length_map, List.length_range]; omega)
  have h2 : (((List.range' i (x.length - i)).map fun i => F.D.int (wv x r i : Nat)).length ≤ 16777216) = True := eq_true (by rw [List.length_map, List.length_range']; omega)
  have l1 := lc_w x r (List.range i)
  have l2 := lc_w x r (List.range' i (x.length - i))
  have ng : negD (.int 1) = some (.int (-1)) := rfl
  have s1 : slL (.lst ((List.range i).filterMap (fD x r))) (some (-1)) none = some ((List.range i).filterMap (fD x r)).getLast?.toList := by
    show some (cut _ _ _) = _
    rw [cut_last]
  have s2 : slL (.lst ((List.range' i (x.length - i)).filterMap (fD x r))) none (some 1) = some (((List.range' i (x.length - i)).filterMap (fD x r)).take 1) := by
    show some (cut _ _ _) = _
    rw [cut_first]
  have ib := int_b1' r
  obtain ⟨t1, a1⟩ := last_ah x r i
  obtain ⟨t2, a2⟩ := head_bh x r (x.length - i) i
  have g1 : catL (.lst ((List.range i).filterMap (fD x r)).getLast?.toList) (.lst [.int (b1 r : Nat)]) = some (.int (ah x r i : Nat) :: t1) := by
    rw [← a1]
    refine if_pos ?_
    have ol : ∀ o : Option F.D, o.toList.length ≤ 1 := fun o => by cases o <;> simp
    have := ol ((List.range i).filterMap (fD x r)).getLast?
    show _ + 1 ≤ 16777216
    omega
  have g2 : catL (.lst (((List.range' i (x.length - i)).filterMap (fD x r)).take 1)) (.lst [.int (b1 r : Nat)]) = some (.int (bh x r (x.length - i) i : Nat) :: t2) := by
    rw [← a2]
    refine if_pos ?_
    rw [List.length_take]
    show min _ _ + 1 ≤ 16777216
    omega
  have x1 := ixD_0 (.int (ah x r i : Nat)) t1
  have x2 := ixD_0 (.int (bh x r (x.length - i) i : Nat)) t2
  have w := ix_tab (fun i => .int (wv x r i : Nat)) hi
  have q1 : eqD (.int (wv x r i : Nat)) (.int 2) = _ := eq_nat (wv x r i) 2
  have q2 := eq_nat (ah x r i) (bh x r (x.length - i) i)
  generalize tailR = T at *
  generalize (tab x.length fun i => F.D.int (wv x r i : Nat)) = W at *
  generalize ((List.range i).map fun i => F.D.int (wv x r i : Nat)) = W1 at *
  generalize ((List.range' i (x.length - i)).map fun i => F.D.int (wv x r i : Nat)) = W2 at *
  generalize ((List.range i).filterMap (fD x r)).getLast?.toList = A1 at *
  generalize (((List.range' i (x.length - i)).filterMap (fD x r)).take 1) = A2 at *
  generalize ((List.range i).filterMap (fD x r)) = F1 at *
  generalize ((List.range' i (x.length - i)).filterMap (fD x r)) = F2 at *
  generalize tab (i + 1) (lev x r) = L1 at *
  generalize tab i (lev x r) = L0 at *
  generalize encL (k2 x i) = k at *
  generalize ((i : Nat) : Int) = I at *
  have hy : wy x r i = if wv x r i = 2 then (if ah x r i = bh x r (x.length - i) i then ah x r i else b1 r) else wv x r i := rfl
  by_cases d1 : wv x r i = 2
  · rw [if_pos d1] at hy
    rw [decide_eq_true d1] at q1
    by_cases d2 : ah x r i = bh x r (x.length - i) i
    · rw [if_pos d2] at hy
      rw [decide_eq_true d2] at q2
      rw [hy] at tl
      generalize ((ah x r i : Nat) : Int) = va at *
      generalize ((bh x r (x.length - i) i : Nat) : Int) = vb at *
      generalize ((wv x r i : Nat) : Int) = vw at *
      generalize ((b1 r : Nat) : Int) = vr at *
      simp only [bodyR, runF, gdO, finR, endF, allO, sSeq, sSet, setR, sOf, leak, mNextS, andThen, mVar, mC, slot, peek, peeks, nrm, O.pk, O.frz, mIf, mTB, mTru, mAnd, mOr, mNot, mOp1, mOp2, mOl1, mOl2, mTup, mLst, mLks, mDct, mDvs, mBi, mBl, mRs, mSm0, mSm1, mSl, mSlL, mPt, mIt, mItZ, zipR, mCall, asArgs, asArg, back, ofRes, mergeO, ofO, ofOS, sIf, sRet, sRetN, sPass, sExp, sAug, sUnp, sPar, sAsg2, sSto, sBrk, sCnt, sFor, sDrop, sMatch, mtL, mOs, setAll, sPut, mItK, mMut0, mMut1, wipeE, unwipe, lcEnd, mLc, mYes, mItS, mItR, mChain, mStar, mLstD, sSlSto, mCallV, mGet2, zipS, mBad, sBad, mNotV, mAndV, mOrV, Tg.put, putAll, List.map_cons, List.map_nil, List.replicate, List.cons_append, List.nil_append, List.getElem?_cons_zero, List.getElem?_cons_succ, Option.bind_some, List.set_cons_zero, List.set_cons_succ, List.take_succ_cons, List.take_zero, List.headD_cons, List.headD_nil, List.tail_cons, List.tail_nil, Option.map_some, Option.map_none, if_true, if_false, Bool.false_eq_true, ite_true, ite_false, Bool.not_true, Bool.not_false, Bool.true_and, Bool.false_and, List.contains, List.elem, List.append_nil, List.length_cons, List.length_nil, Nat.zero_add, Nat.reduceAdd, Nat.reduceLeDiff, lim, Nat.reduceBEq, beq_self_eq_true, Bool.and_self, c1, c2, i1, i2, h1, h2, l1, l2, ng, s1, s2, ib, g1, g2, w, q1, x1, x2, q2, tl]
    · rw [if_neg d2] at hy
      rw [decide_eq_false d2] at q2
      rw [hy] at tl
      generalize ((ah x r i : Nat) : Int) = va at *
      generalize ((bh x r (x.length - i) i : Nat) : Int) = vb at *
      generalize ((wv x r i : Nat) : Int) = vw at *
      generalize ((b1 r : Nat) : Int) = vr at *
      simp only [bodyR, runF, gdO, finR, endF, allO, sSeq, sSet, setR, sOf, leak, mNextS, andThen, mVar, mC, slot, peek, peeks, nrm, O.pk, O.frz, mIf, mTB, mTru, mAnd, mOr, mNot, mOp1, mOp2, mOl1, mOl2, mTup, mLst, mLks, mDct, mDvs, mBi, mBl, mRs, mSm0, mSm1, mSl, mSlL, mPt, mIt, mItZ, zipR, mCall, asArgs, asArg, back, ofRes, mergeO, ofO, ofOS, sIf, sRet, sRetN, sPass, sExp, sAug, sUnp, sPar, sAsg2, sSto, sBrk, sCnt, sFor, sDrop, sMatch, mtL, mOs, setAll, sPut, mItK, mMut0, mMut1, wipeE, unwipe, lcEnd, mLc, mYes, mItS, mItR, mChain, mStar, mLstD, sSlSto, mCallV, mGet2, zipS, mBad, sBad, mNotV, mAndV, mOrV, Tg.put, putAll, List.map_cons, List.map_nil, List.replicate, List.cons_append, List.nil_append, List.getElem?_cons_zero, List.getElem?_cons_succ, Option.bind_some, List.set_cons_zero, List.set_cons_succ, List.take_succ_cons, List.take_zero, List.headD_cons, List.headD_nil, List.tail_cons, List.tail_nil, Option.map_some, Option.map_none, if_true, if_false, Bool.false_eq_true, ite_true, ite_false, Bool.not_true, Bool.not_false, Bool.true_and, Bool.false_and, List.contains, List.elem, List.append_nil, List.length_cons, List.length_nil, Nat.zero_add, Nat.reduceAdd, Nat.reduceLeDiff, lim, Nat.reduceBEq, beq_self_eq_true, Bool.and_self, c1, c2, i1, i2, h1, h2, l1, l2, ng, s1, s2, ib, g1, g2, w, q1, x1, x2, q2, tl]
  · rw [if_neg d1] at hy
    rw [decide_eq_false d1] at q1
    rw [hy] at tl
    generalize ((ah x r i : Nat) : Int) = va at *
    generalize ((bh x r (x.length - i) i : Nat) : Int) = vb at *
    generalize ((wv x r i : Nat) : Int) = vw at *
    generalize ((b1 r : Nat) : Int) = vr at *
    simp only [bodyR, runF, gdO, finR, endF, allO, sSeq, sSet, setR, sOf, leak, mNextS, andThen, mVar, mC, slot, peek, peeks, nrm, O.pk, O.frz, mIf, mTB, mTru, mAnd, mOr, mNot, mOp1, mOp2, mOl1, mOl2, mTup, mLst, mLks, mDct, mDvs, mBi, mBl, mRs, mSm0, mSm1, mSl, mSlL, mPt, mIt, mItZ, zipR, mCall, asArgs, asArg, back, ofRes, mergeO, ofO, ofOS, sIf, sRet, sRetN, sPass, sExp, sAug, sUnp, sPar, sAsg2, sSto, sBrk, sCnt, sFor, sDrop, sMatch, mtL, mOs, setAll, sPut, mItK, mMut0, mMut1, wipeE, unwipe, lcEnd, mLc, mYes, mItS, mItR, mChain, mStar, mLstD, sSlSto, mCallV, mGet2, zipS, mBad, sBad, mNotV, mAndV, mOrV, Tg.put, putAll, List.map_cons, List.map_nil, List.replicate, List.cons_append, List.nil_append, List.getElem?_cons_zero, List.getElem?_cons_succ, Option.bind_some, List.set_cons_zero, List.set_cons_succ, List.take_succ_cons, List.take_zero, List.headD_cons, List.headD_nil, List.tail_cons, List.tail_nil, Option.map_some, Option.map_none, if_true, if_false, Bool.false_eq_true, ite_true, ite_false, Bool.not_true, Bool.not_false, Bool.true_and, Bool.false_and, List.contains, List.elem, List.append_nil, List.length_cons, List.length_nil, Nat.zero_add, Nat.reduceAdd, Nat.reduceLeDiff, lim, Nat.reduceBEq, beq_self_eq_true, Bool.and_self, c1, c2, i1, i2, h1, h2, l1, l2, ng, s1, s2, ib, g1, g2, w, q1, tl]
theorem itR1_ok (n : Int) (h : 0 ≤ n) (h2 : n < 4611686018427387904) : itR1 (.int n) = some (rngF 0 n.toNat) := if_pos ⟨by omega, by omega⟩
theorem ways_ok (fR : F.D → Option (List F.D)) (fL : List F.D → Option F.D) (N : Int) (MM I2 W : List F.D) (G : M F.R) (o0 o1 o2 o4 : O) (ln : fL [F.D.lst MM] = some (.int N)) (ir : fR (.int N) = some I2) (hl : (I2.length ≤ 16777216) = True)
    (lc : lcL [8] (.nm 8) mYes G I2 [] [some o0, some o1, some o2, none, some o4, none, some (.fl MM), none, none, none, none, none, none] = .ok W [some o0, some o1, some o2, none, some o4, none, some (.fl MM), none, none, none, none, none, none]) :
    (sSet 7 (mLc [8] (.nm 8) (mIt fR (mBi fL [(mVar 6)])) mYes G)) [some o0, some o1, some o2, none, some o4, none, some (.fl MM), none, none, none, none, none, none] = .nx [some o0, some o1, some o2, none, some o4, none, some (.fl MM), some (.fl W), none, none, none, none, none] := by
  simp only [runF, gdO, finR, endF, allO, sSeq, sSet, setR, sOf, leak, mNextS, andThen, mVar, mC, slot, peek, peeks, nrm, O.pk, O.frz, mIf, mTB, mTru, mAnd, mOr, mNot, mOp1, mOp2, mOl1, mOl2, mTup, mLst, mLks, mDct, mDvs, mBi, mBl, mRs, mSm0, mSm1, mSl, mSlL, mPt, mIt, mItZ, zipR, mCall, asArgs, asArg, back, ofRes, mergeO, ofO, ofOS, sIf, sRet, sRetN, sPass, sExp, sAug, sUnp, sPar, sAsg2, sSto, sBrk, sCnt, sFor, sDrop, sMatch, mtL, mOs, setAll, sPut, mItK, mMut0, mMut1, wipeE, unwipe, lcEnd, mLc, mYes, mItS, mItR, mChain, mStar, mLstD, sSlSto, mCallV, mGet2, zipS, mBad, sBad, mNotV, mAndV, mOrV, Tg.put, putAll, List.map_cons, List.map_nil, List.replicate, List.cons_append, List.nil_append, List.getElem?_cons_zero, List.getElem?_cons_succ, Option.bind_some, List.set_cons_zero, List.set_cons_succ, List.take_succ_cons, List.take_zero, List.headD_cons, List.headD_nil, List.tail_cons, List.tail_nil, Option.map_some, Option.map_none, if_true, if_false, Bool.false_eq_true, ite_true, ite_false, Bool.not_true, Bool.not_false, Bool.true_and, Bool.false_and, List.contains, List.elem, List.append_nil, List.length_cons, List.length_nil, Nat.zero_add, Nat.reduceAdd, Nat.reduceLeDiff, lim, Nat.reduceBEq, beq_self_eq_true, Bool.and_self, ln, ir, hl, lc]
theorem z_lr {x : List Nat} (hx : ∀ c ∈ x, c ∈ cl7) (r : Bool) (hn : x.length ≤ 900) : Z__law_relative [.sh (.str x), .sh (.bl r)] = .rt (.fl (tab x.length (lev x r))) [.sh (.str x), .sh (.bl r)] := by
  have zd := z_ld x r hn hx
  have l0 := st_loop x r (by omega) none none none none none none none
  have i0 := itS_x x
  have tr : truD (.bl r) = some r := rfl
  have s0 : stL x r 0 = .str (if r = true then [82] else [76]) := by cases r <;> rfl
  rw [s0] at l0
  have ln := len_lst (tab x.length fun j => encL (k2 x j))
  rw [tab_len] at ln
  have ir : itR1 (.int (x.length : Nat)) = some ((List.range x.length).map fun i => F.D.int (i : Nat)) := by
    rw [itR1_ok _ (by omega) (by omega), Int.toNat_natCast, List.range_eq_range', ← rngF_r 0]
    rfl
  have hl : (((List.range x.length).map fun i => F.D.int (i : Nat)).length ≤ 16777216) = True := eq_true (by rw [List.length_map, List.length_range]; omega)
  have lc0 := fun (e0 e1 e3 e4 e5 e7 e9 e10 e11 e12 : Option O) => lc_map (enc := fun i => F.D.int (i : Nat)) (own := [8]) (t := .nm 8) (c := mYes) (v := (mGet2 (mDct [(.s [76], (mC (.int 0))), (.s [82], (mC (.int 1))), (.s [65], (mC (.int 1))), (.s [78], (mC (.int 2)))]) (mOp2 ixD (mVar 6) (mVar 8)) (mBi intD [(mOp2 neD (mOp2 ixD (mVar 2) (mVar 8)) (mC (.str [76])))])))
    (e := [e0, e1, some (.sh (.lst (tab x.length (stL x r)))), e3, e4, e5, some (.fl (tab x.length fun j => encL (k2 x j))), e7, none, e9, e10, e11, e12]) (f := fun i => F.D.int (wv x r i : Nat)) (as := List.range x.length) (acc := []) fun i hi => by
    have hi := List.mem_range.mp hi
    have x1 := ix_tab (fun j => encL (k2 x j)) hi
    have x2 := ix_tab (stL x r) hi
    have d := st_dir x r i
    have ib := int_b1' (dirB x r i)
    have gw : getD [(.s [76], .int 0), (.s [82], .int 1), (.s [65], .int 1), (.s [78], .int 2)] (encL (k2 x i)) (.int (b1 (dirB x r i) : Nat)) = some (.int (wv x r i : Nat)) := get_w hx r hi
    show lcOne _ _ _ _ (F.D.int (i : Nat)) _ = some (some (F.D.int (wv x r i : Nat)), _)
    generalize tab x.length (stL x r) = S at *
    generalize (tab x.length fun j => encL (k2 x j)) = M at *
    generalize encL (k2 x i) = k at *
    generalize stL x r i = s at *
    generalize ((b1 (dirB x r i) : Nat) : Int) = b at *
    generalize ((wv x r i : Nat) : Int) = w at *
    generalize ((i : Nat) : Int) = I at *
    simp only [lcOne, runF, gdO, finR, endF, allO, sSeq, sSet, setR, sOf, leak, mNextS, andThen, mVar, mC, slot, peek, peeks, nrm, O.pk, O.frz, mIf, mTB, mTru, mAnd, mOr, mNot, mOp1, mOp2, mOl1, mOl2, mTup, mLst, mLks, mDct, mDvs, mBi, mBl, mRs, mSm0, mSm1, mSl, mSlL, mPt, mIt, mItZ, zipR, mCall, asArgs, asArg, back, ofRes, mergeO, ofO, ofOS, sIf, sRet, sRetN, sPass, sExp, sAug, sUnp, sPar, sAsg2, sSto, sBrk, sCnt, sFor, sDrop, sMatch, mtL, mOs, setAll, sPut, mItK, mMut0, mMut1, wipeE, unwipe, lcEnd, mLc, mYes, mItS, mItR, mChain, mStar, mLstD, sSlSto, mCallV, mGet2, zipS, mBad, sBad, mNotV, mAndV, mOrV, Tg.put, putAll, List.map_cons, List.map_nil, List.replicate, List.cons_append, List.nil_append, List.getElem?_cons_zero, List.getElem?_cons_succ, Option.bind_some, List.set_cons_zero, List.set_cons_succ, List.take_succ_cons, List.take_zero, List.headD_cons, List.headD_nil, List.tail_cons, List.tail_nil, Option.map_some, Option.map_none, if_true, if_false, Bool.false_eq_true, ite_true, ite_false, Bool.not_true, Bool.not_false, Bool.true_and, Bool.false_and, List.contains, List.elem, List.append_nil, List.length_cons, List.length_nil, Nat.zero_add, Nat.reduceAdd, Nat.reduceLeDiff, lim, Nat.reduceBEq, beq_self_eq_true, Bool.and_self, x1, x2, d, ib, gw]
  have lc : ∀ (e0 e1 e3 e4 e5 e7 e9 e10 e11 e12 : Option O), lcL [8] (.nm 8) mYes (mGet2 (mDct [(.s [76], (mC (.int 0))), (.s [82], (mC (.int 1))), (.s [65], (mC (.int 1))), (.s [78], (mC (.int 2)))]) (mOp2 ixD (mVar 6) (mVar 8)) (mBi intD [(mOp2 neD (mOp2 ixD (mVar 2) (mVar 8)) (mC (.str [76])))])) ((List.range x.length).map fun i => F.D.int (i : Nat)) [] [e0, e1, some (.sh (.lst (tab x.length (stL x r)))), e3, e4, e5, some (.fl (tab x.length fun j => encL (k2 x j))), e7, none, e9, e10, e11, e12] =
    .ok (tab x.length fun i => F.D.int (wv x r i : Nat)) [e0, e1, some (.sh (.lst (tab x.length (stL x r)))), e3, e4, e5, some (.fl (tab x.length fun j => encL (k2 x j))), e7, none, e9, e10, e11, e12] := lc0
  clear lc0
  have ie : itEL (.lst (tab x.length fun j => encL (k2 x j))) = some ((List.range x.length).map fun i => F.D.tup [.int (i : Nat), encL (k2 x i)]) := by
    show some (enumF 0 _) = _
    rw [enum_tab]
  have l1 : ∀ (S M : F.D), forL (.tp [(.nm 8), (.nm 9)]) b__law_relative_1 ((List.range x.length).map fun i => F.D.tup [.int (i : Nat), encL (k2 x i)]) [some (.sh (.str x)), some (.sh (.bl r)), some (.sh S), none, some (.fl []), none, some (.sh M), some (.fl (tab x.length fun i => .int (wv x r i : Nat))), none, none, none, none, none] = .nx [some (.sh (.str x)), some (.sh (.bl r)), some (.sh S), none, some (.fl (tab x.length (lev x r))), none, some (.sh M), some (.fl (tab x.length fun i => .int (wv x r i : Nat))), none, none, none, none, none] := fun S M =>
    for_rng (enc := fun i => F.D.tup [.int (i : Nat), encL (k2 x i)]) (g := fun i => [some (.sh (.str x)), some (.sh (.bl r)), some (.sh S), none, some (.fl (tab i (lev x r))), none, some (.sh M), some (.fl (tab x.length fun i => .int (wv x r i : Nat))), none, none, none, none, none]) fun i hi => ⟨_, rfl, lr_step hx r hn S M hi⟩
  generalize tab x.length (stL x r) = S at *
  generalize stL x r x.length = S9 at *
  generalize (tab x.length fun j => encL (k2 x j)) = M at *
  generalize (tab x.length fun i => F.D.int (wv x r i : Nat)) = W at *
  generalize tab x.length (lev x r) = L at *
  generalize ((List.range x.length).map fun i => F.D.tup [.int (i : Nat), encL (k2 x i)]) = I1 at *
  generalize ((List.range x.length).map fun i => F.D.int (i : Nat)) = I2 at *
  generalize x.map chD = I0 at *
  generalize ((x.length : Nat) : Int) = N at *
  have A : (sPar [2, 3, 4] [(mLst []), (mIf (mTru (mVar 1)) (mC (.str [82])) (mC (.str [76]))), (mLst [])]) [some (.sh (.str x)), some (.sh (.bl r)), none, none, none, none, none, none, none, none, none, none, none] = .nx [some (.sh (.str x)), some (.sh (.bl r)), some (.fl []), some (.sh (.str (if r = true then [82] else [76]))), some (.fl []), none, none, none, none, none, none, none, none] := by
    cases r with
    | true => simp only [runF, gdO, finR, endF, allO, sSeq, sSet, setR, sOf, leak, mNextS, andThen, mVar, mC, slot, peek, peeks, nrm, O.pk, O.frz, mIf, mTB, mTru, mAnd, mOr, mNot, mOp1, mOp2, mOl1, mOl2, mTup, mLst, mLks, mDct, mDvs, mBi, mBl, mRs, mSm0, mSm1, mSl, mSlL, mPt, mIt, mItZ, zipR, mCall, asArgs, asArg, back, ofRes, mergeO, ofO, ofOS, sIf, sRet, sRetN, sPass, sExp, sAug, sUnp, sPar, sAsg2, sSto, sBrk, sCnt, sFor, sDrop, sMatch, mtL, mOs, setAll, sPut, mItK, mMut0, mMut1, wipeE, unwipe, lcEnd, mLc, mYes, mItS, mItR, mChain, mStar, mLstD, sSlSto, mCallV, mGet2, zipS, mBad, sBad, mNotV, mAndV, mOrV, Tg.put, putAll, List.map_cons, List.map_nil, List.replicate, List.cons_append, List.nil_append, List.getElem?_cons_zero, List.getElem?_cons_succ, Option.bind_some, List.set_cons_zero, List.set_cons_succ, List.take_succ_cons, List.take_zero, List.headD_cons, List.headD_nil, List.tail_cons, List.tail_nil, Option.map_some, Option.map_none, if_true, if_false, Bool.false_eq_true, ite_true, ite_false, Bool.not_true, Bool.not_false, Bool.true_and, Bool.false_and, List.contains, List.elem, List.append_nil, List.length_cons, List.length_nil, Nat.zero_add, Nat.reduceAdd, Nat.reduceLeDiff, lim, Nat.reduceBEq, beq_self_eq_true, Bool.and_self, mTru, tr]
    | false => simp only [runF, gdO, finR, endF, allO, sSeq, sSet, setR, sOf, leak, mNextS, andThen, mVar, mC, slot, peek, peeks, nrm, O.pk, O.frz, mIf, mTB, mTru, mAnd, mOr, mNot, mOp1, mOp2, mOl1, mOl2, mTup, mLst, mLks, mDct, mDvs, mBi, mBl, mRs, mSm0, mSm1, mSl, mSlL, mPt, mIt, mItZ, zipR, mCall, asArgs, asArg, back, ofRes, mergeO, ofO, ofOS, sIf, sRet, sRetN, sPass, sExp, sAug, sUnp, sPar, sAsg2, sSto, sBrk, sCnt, sFor, sDrop, sMatch, mtL, mOs, setAll, sPut, mItK, mMut0, mMut1, wipeE, unwipe, lcEnd, mLc, mYes, mItS, mItR, mChain, mStar, mLstD, sSlSto, mCallV, mGet2, zipS, mBad, sBad, mNotV, mAndV, mOrV, Tg.put, putAll, List.map_cons, List.map_nil, List.replicate, List.cons_append, List.nil_append, List.getElem?_cons_zero, List.getElem?_cons_succ, Option.bind_some, List.set_cons_zero, List.set_cons_succ, List.take_succ_cons, List.take_zero, List.headD_cons, List.headD_nil, List.tail_cons, List.tail_nil, Option.map_some, Option.map_none, if_true, if_false, Bool.false_eq_true, ite_true, ite_false, Bool.not_true, Bool.not_false, Bool.true_and, Bool.false_and, List.contains, List.elem, List.append_nil, List.length_cons, List.length_nil, Nat.zero_add, Nat.reduceAdd, Nat.reduceLeDiff, lim, Nat.reduceBEq, beq_self_eq_true, Bool.and_self, mTru, tr]
  have B : (sDrop (sFor (.nm 5) (mIt itS (mVar 0)) b__law_relative_0) [3, 5]) [some (.sh (.str x)), some (.sh (.bl r)), some (.fl []), some (.sh (.str (if r = true then [82] else [76]))), some (.fl []), none, none, none, none, none, none, none, none] = .nx [some (.sh (.str x)), some (.sh (.bl r)), some (.fl S), none, some (.fl []), none, none, none, none, none, none, none, none] := by
    generalize (if r = true then [82] else [76]) = q at *
    simp only [runF, gdO, finR, endF, allO, sSeq, sSet, setR, sOf, leak, mNextS, andThen, mVar, mC, slot, peek, peeks, nrm, O.pk, O.frz, mIf, mTB, mTru, mAnd, mOr, mNot, mOp1, mOp2, mOl1, mOl2, mTup, mLst, mLks, mDct, mDvs, mBi, mBl, mRs, mSm0, mSm1, mSl, mSlL, mPt, mIt, mItZ, zipR, mCall, asArgs, asArg, back, ofRes, mergeO, ofO, ofOS, sIf, sRet, sRetN, sPass, sExp, sAug, sUnp, sPar, sAsg2, sSto, sBrk, sCnt, sFor, sDrop, sMatch, mtL, mOs, setAll, sPut, mItK, mMut0, mMut1, wipeE, unwipe, lcEnd, mLc, mYes, mItS, mItR, mChain, mStar, mLstD, sSlSto, mCallV, mGet2, zipS, mBad, sBad, mNotV, mAndV, mOrV, Tg.put, putAll, List.map_cons, List.map_nil, List.replicate, List.cons_append, List.nil_append, List.getElem?_cons_zero, List.getElem?_cons_succ, Option.bind_some, List.set_cons_zero, List.set_cons_succ, List.take_succ_cons, List.take_zero, List.headD_cons, List.headD_nil, List.tail_cons, List.tail_nil, Option.map_some, Option.map_none, if_true, if_false, Bool.false_eq_true, ite_true, ite_false, Bool.not_true, Bool.not_false, Bool.true_and, Bool.false_and, List.contains, List.elem, List.append_nil, List.length_cons, List.length_nil, Nat.zero_add, Nat.reduceAdd, Nat.reduceLeDiff, lim, Nat.reduceBEq, beq_self_eq_true, Bool.and_self, i0, l0]
  have C : (sSet 6 (mCall Z__law_digits [] [] [(mVar 0), (mVar 2)])) [some (.sh (.str x)), some (.sh (.bl r)), some (.fl S), none, some (.fl []), none, none, none, none, none, none, none, none] = .nx [some (.sh (.str x)), some (.sh (.bl r)), some (.sh (.lst S)), none, some (.fl []), none, some (.fl M), none, none, none, none, none, none] := by
    simp only [runF, gdO, finR, endF, allO, sSeq, sSet, setR, sOf, leak, mNextS, andThen, mVar, mC, slot, peek, peeks, nrm, O.pk, O.frz, mIf, mTB, mTru, mAnd, mOr, mNot, mOp1, mOp2, mOl1, mOl2, mTup, mLst, mLks, mDct, mDvs, mBi, mBl, mRs, mSm0, mSm1, mSl, mSlL, mPt, mIt, mItZ, zipR, mCall, asArgs, asArg, back, ofRes, mergeO, ofO, ofOS, sIf, sRet, sRetN, sPass, sExp, sAug, sUnp, sPar, sAsg2, sSto, sBrk, sCnt, sFor, sDrop, sMatch, mtL, mOs, setAll, sPut, mItK, mMut0, mMut1, wipeE, unwipe, lcEnd, mLc, mYes, mItS, mItR, mChain, mStar, mLstD, sSlSto, mCallV, mGet2, zipS, mBad, sBad, mNotV, mAndV, mOrV, Tg.put, putAll, List.map_cons, List.map_nil, List.replicate, List.cons_append, List.nil_append, List.getElem?_cons_zero, List.getElem?_cons_succ, Option.bind_some, List.set_cons_zero, List.set_cons_succ, List.take_succ_cons, List.take_zero, List.headD_cons, List.headD_nil, List.tail_cons, List.tail_nil, Option.map_some, Option.map_none, if_true, if_false, Bool.false_eq_true, ite_true, ite_false, Bool.not_true, Bool.not_false, Bool.true_and, Bool.false_and, List.contains, List.elem, List.append_nil, List.length_cons, List.length_nil, Nat.zero_add, Nat.reduceAdd, Nat.reduceLeDiff, lim, Nat.reduceBEq, beq_self_eq_true, Bool.and_self, zd]
  have D : (sSet 7 (mLc [8] (.nm 8) (mIt itR1 (mBi lenD [(mVar 6)])) mYes (mGet2 (mDct [(.s [76], (mC (.int 0))), (.s [82], (mC (.int 1))), (.s [65], (mC (.int 1))), (.s [78], (mC (.int 2)))]) (mOp2 ixD (mVar 6) (mVar 8)) (mBi intD [(mOp2 neD (mOp2 ixD (mVar 2) (mVar 8)) (mC (.str [76])))])))) [some (.sh (.str x)), some (.sh (.bl r)), some (.sh (.lst S)), none, some (.fl []), none, some (.fl M), none, none, none, none, none, none] = .nx [some (.sh (.str x)), some (.sh (.bl r)), some (.sh (.lst S)), none, some (.fl []), none, some (.fl M), some (.fl W), none, none, none, none, none] := by
    exact ways_ok itR1 lenD N M I2 W _ _ _ _ _ ln ir hl (lc _ _ _ _ _ _ _ _ _ _)
  have E : (sDrop (sFor (.tp [(.nm 8), (.nm 9)]) (mIt itEL (mVar 6)) b__law_relative_1) [8, 9, 10, 11, 12]) [some (.sh (.str x)), some (.sh (.bl r)), some (.sh (.lst S)), none, some (.fl []), none, some (.fl M), some (.fl W), none, none, none, none, none] = .nx [some (.sh (.str x)), some (.sh (.bl r)), some (.sh (.lst S)), none, some (.fl L), none, some (.sh (.lst M)), some (.fl W), none, none, none, none, none] := by
    simp only [runF, gdO, finR, endF, allO, sSeq, sSet, setR, sOf, leak, mNextS, andThen, mVar, mC, slot, peek, peeks, nrm, O.pk, O.frz, mIf, mTB, mTru, mAnd, mOr, mNot, mOp1, mOp2, mOl1, mOl2, mTup, mLst, mLks, mDct, mDvs, mBi, mBl, mRs, mSm0, mSm1, mSl, mSlL, mPt, mIt, mItZ, zipR, mCall, asArgs, asArg, back, ofRes, mergeO, ofO, ofOS, sIf, sRet, sRetN, sPass, sExp, sAug, sUnp, sPar, sAsg2, sSto, sBrk, sCnt, sFor, sDrop, sMatch, mtL, mOs, setAll, sPut, mItK, mMut0, mMut1, wipeE, unwipe, lcEnd, mLc, mYes, mItS, mItR, mChain, mStar, mLstD, sSlSto, mCallV, mGet2, zipS, mBad, sBad, mNotV, mAndV, mOrV, Tg.put, putAll, List.map_cons, List.map_nil, List.replicate, List.cons_append, List.nil_append, List.getElem?_cons_zero, List.getElem?_cons_succ, Option.bind_some, List.set_cons_zero, List.set_cons_succ, List.take_succ_cons, List.take_zero, List.headD_cons, List.headD_nil, List.tail_cons, List.tail_nil, Option.map_some, Option.map_none, if_true, if_false, Bool.false_eq_true, ite_true, ite_false, Bool.not_true, Bool.not_false, Bool.true_and, Bool.false_and, List.contains, List.elem, List.append_nil, List.length_cons, List.length_nil, Nat.zero_add, Nat.reduceAdd, Nat.reduceLeDiff, lim, Nat.reduceBEq, beq_self_eq_true, Bool.and_self, ie, l1]
  have seq : ∀ (a b : MS) (e e1 : Env), a e = .nx e1 → sSeq a b e = b e1 := fun a b e e1 h => by
    simp only [sSeq, h]
  have R : m__law_relative [some (.sh (.str x)), some (.sh (.bl r)), none, none, none, none, none, none, none, none, none, none, none] = .rt (.fl L) [some (.sh (.str x)), some (.sh (.bl r)), some (.sh (.lst S)), none, none, none, some (.sh (.lst M)), some (.fl W), none, none, none, none, none] := by
    unfold m__law_relative
    rw [seq _ _ _ _ A, seq _ _ _ _ B, seq _ _ _ _ C, seq _ _ _ _ D, seq _ _ _ _ E]
    rfl
  unfold Z__law_relative
  generalize m__law_relative = mm at *
  simp only [runF, gdO, finR, endF, allO, sSeq, sSet, setR, sOf, leak, mNextS, andThen, mVar, mC, slot, peek, peeks, nrm, O.pk, O.frz, mIf, mTB, mTru, mAnd, mOr, mNot, mOp1, mOp2, mOl1, mOl2, mTup, mLst, mLks, mDct, mDvs, mBi, mBl, mRs, mSm0, mSm1, mSl, mSlL, mPt, mIt, mItZ, zipR, mCall, asArgs, asArg, back, ofRes, mergeO, ofO, ofOS, sIf, sRet, sRetN, sPass, sExp, sAug, sUnp, sPar, sAsg2, sSto, sBrk, sCnt, sFor, sDrop, sMatch, mtL, mOs, setAll, sPut, mItK, mMut0, mMut1, wipeE, unwipe, lcEnd, mLc, mYes, mItS, mItR, mChain, mStar, mLstD, sSlSto, mCallV, mGet2, zipS, mBad, sBad, mNotV, mAndV, mOrV, Tg.put, putAll, List.map_cons, List.map_nil, List.replicate, List.cons_append, List.nil_append, List.getElem?_cons_zero, List.getElem?_cons_succ, Option.bind_some, List.set_cons_zero, List.set_cons_succ, List.take_succ_cons, List.take_zero, List.headD_cons, List.headD_nil, List.tail_cons, List.tail_nil, Option.map_some, Option.map_none, if_true, if_false, Bool.false_eq_true, ite_true, ite_false, Bool.not_true, Bool.not_false, Bool.true_and, Bool.false_and, List.contains, List.elem, List.append_nil, List.length_cons, List.length_nil, Nat.zero_add, Nat.reduceAdd, Nat.reduceLeDiff, lim, Nat.reduceBEq, beq_self_eq_true, Bool.and_self, R]
end F
end

section
set_option linter.all false
set_option autoImplicit false
set_option maxRecDepth 100000
set_option maxHeartbeats 1000000
/-! k23: what is drawn; texts and words that are refused -/
namespace F
theorem add_str (x y : List Nat) (h : x.length + y.length ≤ 16777216) : addD (.str x) (.str y) = some (.str (x ++ y)) := if_pos h
theorem rep_ok (c : Nat) (k : Int) (h0 : -1000 ≤ k) (h : k ≤ 1000) : repS (.str [c]) (.int k) = some (.str (List.replicate k.toNat c)) := by
  show (if -9223372036854775808 ≤ k ∧ k < 9223372036854775808 ∧ ([c] : List Nat).length * k.toNat ≤ F.lim then some (F.D.str (repN [c] k.toNat)) else none) = _
  rw [if_pos ⟨by omega, by omega, by simp only [List.length_cons, List.length_nil, F.lim]; omega⟩, repN_eq]
theorem z_take (a m n : Int) (h0 : 0 < n) (h1 : n < 1073741824) : ∃ a' m' r, Z__law_take [bg a m, .sh (.int n)] = .rt (.sh (.int r)) [bg a' m', .sh (.int n)] ∧ 0 ≤ r ∧ r < n := by
  have g := gt_int a 0
  by_cases ha : 0 < a
  · rw [decide_eq_true ha] at g
    refine ⟨a / n, m, a % n, ?_, Int.emod_nonneg _ (by omega), Int.emod_lt_of_pos _ h0⟩
    have e1 := mod_ok a n h0
    have e2 := div_ok a n h0 h1
    simp only [Z__law_take, m__law_take, runF, gdO, finR, endF, allO, sSeq, sSet, setR, sOf, leak, mNextS, andThen, mVar, mC, slot, peek, peeks, nrm, O.pk, O.frz, mIf, mTB, mTru, mAnd, mOr, mNot, mOp1, mOp2, mOl1, mOl2, mTup, mLst, mLks, mDct, mDvs, mBi, mBl, mRs, mSm0, mSm1, mSl, mSlL, mPt, mIt, mItZ, zipR, mCall, asArgs, asArg, back, ofRes, mergeO, ofO, ofOS, sIf, sRet, sRetN, sPass, sExp, sAug, sUnp, sPar, sAsg2, sSto, sBrk, sCnt, sFor, sDrop, sMatch, mtL, mOs, setAll, sPut, mItK, mMut0, mMut1, wipeE, unwipe, lcEnd, mLc, mYes, mItS, mItR, mChain, mStar, mLstD, sSlSto, mCallV, mGet2, zipS, mBad, sBad, mNotV, mAndV, mOrV, Tg.put, putAll, List.map_cons, List.map_nil, List.replicate, List.cons_append, List.nil_append, List.getElem?_cons_zero, List.getElem?_cons_succ, Option.bind_some, List.set_cons_zero, List.set_cons_succ, List.take_succ_cons, List.take_zero, List.headD_cons, List.headD_nil, List.tail_cons, List.tail_nil, Option.map_some, Option.map_none, if_true, if_false, Bool.false_eq_true, ite_true, ite_false, Bool.not_true, Bool.not_false, Bool.true_and, Bool.false_and, List.contains, List.elem, List.append_nil, List.length_cons, List.length_nil, Nat.zero_add, Nat.reduceAdd, Nat.reduceLeDiff, lim, Nat.reduceBEq, beq_self_eq_true, Bool.and_self, bg0, g, int_int, e1, e2, ixI20]
  · rw [decide_eq_false ha] at g
    refine ⟨a, (m * 40692 + 17) % 2147483399, (m * 40692 + 17) % 2147483399 / 8 * 48271 % 2147483629 / 32 % n, ?_, Int.emod_nonneg _ (by omega), Int.emod_lt_of_pos _ h0⟩
    have e1 := mulOk_r m 40692 (by decide) (by decide)
    have e2 := mod_ok (m * 40692 + 17) 2147483399 (by decide)
    generalize (m * 40692 + 17) % 2147483399 = m2 at *
    have e3 := div_ok m2 8 (by decide) (by decide)
    have e4 := mulOk_r (m2 / 8) 48271 (by decide) (by decide)
    have e5 := mod_ok (m2 / 8 * 48271) 2147483629 (by decide)
    have e6 := div_ok (m2 / 8 * 48271 % 2147483629) 32 (by decide) (by decide)
    have e7 := mod_ok (m2 / 8 * 48271 % 2147483629 / 32) n h0
    simp only [Z__law_take, m__law_take, runF, gdO, finR, endF, allO, sSeq, sSet, setR, sOf, leak, mNextS, andThen, mVar, mC, slot, peek, peeks, nrm, O.pk, O.frz, mIf, mTB, mTru, mAnd, mOr, mNot, mOp1, mOp2, mOl1, mOl2, mTup, mLst, mLks, mDct, mDvs, mBi, mBl, mRs, mSm0, mSm1, mSl, mSlL, mPt, mIt, mItZ, zipR, mCall, asArgs, asArg, back, ofRes, mergeO, ofO, ofOS, sIf, sRet, sRetN, sPass, sExp, sAug, sUnp, sPar, sAsg2, sSto, sBrk, sCnt, sFor, sDrop, sMatch, mtL, mOs, setAll, sPut, mItK, mMut0, mMut1, wipeE, unwipe, lcEnd, mLc, mYes, mItS, mItR, mChain, mStar, mLstD, sSlSto, mCallV, mGet2, zipS, mBad, sBad, mNotV, mAndV, mOrV, Tg.put, putAll, List.map_cons, List.map_nil, List.replicate, List.cons_append, List.nil_append, List.getElem?_cons_zero, List.getElem?_cons_succ, Option.bind_some, List.set_cons_zero, List.set_cons_succ, List.take_succ_cons, List.take_zero, List.headD_cons, List.headD_nil, List.tail_cons, List.tail_nil, Option.map_some, Option.map_none, if_true, if_false, Bool.false_eq_true, ite_true, ite_false, Bool.not_true, Bool.not_false, Bool.true_and, Bool.false_and, List.contains, List.elem, List.append_nil, List.length_cons, List.length_nil, Nat.zero_add, Nat.reduceAdd, Nat.reduceLeDiff, lim, Nat.reduceBEq, beq_self_eq_true, Bool.and_self, bg0, bg1, g, int_int, e1, add_int, e2, ixI21, e3, e4, e5, e6, e7]
theorem z_bag (ns : List Int) (i : Int) (h0 : 0 ≤ i) : ∃ a m, Z__law_bag [.sh (.lst (ns.map .int)), .sh (.int i)] = .rt (bg a m) [.sh (.lst (ns.map .int)), .sh (.int i)] := by
  have hc : ∃ c : Int, (if (i : Int) < ((ns.map F.D.int).length : Nat) then ixD (.lst (ns.map .int)) (.int i) = some (.int c) else c = 0) := by
    by_cases hi : i < ((ns.map F.D.int).length : Nat)
    · obtain ⟨d, hd, hg⟩ := getI_nat h0 hi
      obtain ⟨c, _, rfl⟩ := List.mem_map.mp hd
      exact ⟨c, by rw [if_pos hi]; exact hg⟩
    · exact ⟨0, by rw [if_neg hi]⟩
  obtain ⟨c, hc⟩ := hc
  have ll := len_lst (ns.map F.D.int)
  have lt := lt_int i ((ns.map F.D.int).length : Nat)
  have ab := abs_int c
  have ge := ge_int (if c < 0 then -c else c) 1000000000000000000
  generalize (if c < 0 then -c else c) = ca at *
  have e1 := mod_ok ca 2147483563 (by decide)
  have e2 := mulOk_r (ca % 2147483563) 48271 (by decide) (by decide)
  have e3 := mod_ok c 89 (by decide)
  have e4 := mulOk_r (c % 89 + 1) 7919 (by decide) (by decide)
  have e5 := mulOk_l 104729 i (by decide) (by decide)
  have e6 := mod_ok (ca % 2147483563 * 48271 + (c % 89 + 1) * 7919 + 104729 * i + 31) 2147483563 (by decide)
  have e7 := int_bl (decide (1000000000000000000 ≤ ca))
  have e8 : ∀ b : Bool, mulD (.int ca) (.int (if b = true then 1 else 0)) = some (.int (ca * (if b = true then 1 else 0))) := fun b => by cases b <;> exact mulOk_r _ _ (by decide) (by decide)
  have e8 := e8 (decide (1000000000000000000 ≤ ca))
  generalize (if decide (1000000000000000000 ≤ ca) = true then (1 : Int) else 0) = kk at *
  generalize decide (1000000000000000000 ≤ ca) = kb at *
  refine ⟨ca * kk, (ca % 2147483563 * 48271 + (c % 89 + 1) * 7919 + 104729 * i + 31) % 2147483563 + 1, ?_⟩
  generalize ((ns.map F.D.int).length : Int) = L at *
  generalize ns.map F.D.int = S at *
  by_cases g1 : i < L
  · simp only [g1, if_true, decide_true] at hc lt
    simp only [Z__law_bag, m__law_bag, runF, gdO, finR, endF, allO, sSeq, sSet, setR, sOf, leak, mNextS, andThen, mVar, mC, slot, peek, peeks, nrm, O.pk, O.frz, mIf, mTB, mTru, mAnd, mOr, mNot, mOp1, mOp2, mOl1, mOl2, mTup, mLst, mLks, mDct, mDvs, mBi, mBl, mRs, mSm0, mSm1, mSl, mSlL, mPt, mIt, mItZ, zipR, mCall, asArgs, asArg, back, ofRes, mergeO, ofO, ofOS, sIf, sRet, sRetN, sPass, sExp, sAug, sUnp, sPar, sAsg2, sSto, sBrk, sCnt, sFor, sDrop, sMatch, mtL, mOs, setAll, sPut, mItK, mMut0, mMut1, wipeE, unwipe, lcEnd, mLc, mYes, mItS, mItR, mChain, mStar, mLstD, sSlSto, mCallV, mGet2, zipS, mBad, sBad, mNotV, mAndV, mOrV, Tg.put, putAll, List.map_cons, List.map_nil, List.replicate, List.cons_append, List.nil_append, List.getElem?_cons_zero, List.getElem?_cons_succ, Option.bind_some, List.set_cons_zero, List.set_cons_succ, List.take_succ_cons, List.take_zero, List.headD_cons, List.headD_nil, List.tail_cons, List.tail_nil, Option.map_some, Option.map_none, if_true, if_false, Bool.false_eq_true, ite_true, ite_false, Bool.not_true, Bool.not_false, Bool.true_and, Bool.false_and, List.contains, List.elem, List.append_nil, List.length_cons, List.length_nil, Nat.zero_add, Nat.reduceAdd, Nat.reduceLeDiff, lim, Nat.reduceBEq, beq_self_eq_true, Bool.and_self, ll, lt, hc, ab, e1, e2, e3, e4, e5, e6, e7, e8, pow18, ge, add_int, int_int]
  · rw [if_neg g1] at hc
    subst hc
    simp only [g1, if_false, decide_false] at lt
    simp only [Z__law_bag, m__law_bag, runF, gdO, finR, endF, allO, sSeq, sSet, setR, sOf, leak, mNextS, andThen, mVar, mC, slot, peek, peeks, nrm, O.pk, O.frz, mIf, mTB, mTru, mAnd, mOr, mNot, mOp1, mOp2, mOl1, mOl2, mTup, mLst, mLks, mDct, mDvs, mBi, mBl, mRs, mSm0, mSm1, mSl, mSlL, mPt, mIt, mItZ, zipR, mCall, asArgs, asArg, back, ofRes, mergeO, ofO, ofOS, sIf, sRet, sRetN, sPass, sExp, sAug, sUnp, sPar, sAsg2, sSto, sBrk, sCnt, sFor, sDrop, sMatch, mtL, mOs, setAll, sPut, mItK, mMut0, mMut1, wipeE, unwipe, lcEnd, mLc, mYes, mItS, mItR, mChain, mStar, mLstD, sSlSto, mCallV, mGet2, zipS, mBad, sBad, mNotV, mAndV, mOrV, Tg.put, putAll, List.map_cons, List.map_nil, List.replicate, List.cons_append, List.nil_append, List.getElem?_cons_zero, List.getElem?_cons_succ, Option.bind_some, List.set_cons_zero, List.set_cons_succ, List.take_succ_cons, List.take_zero, List.headD_cons, List.headD_nil, List.tail_cons, List.tail_nil, Option.map_some, Option.map_none, if_true, if_false, Bool.false_eq_true, ite_true, ite_false, Bool.not_true, Bool.not_false, Bool.true_and, Bool.false_and, List.contains, List.elem, List.append_nil, List.length_cons, List.length_nil, Nat.zero_add, Nat.reduceAdd, Nat.reduceLeDiff, lim, Nat.reduceBEq, beq_self_eq_true, Bool.and_self, ll, lt, ab, e1, e2, e3, e4, e5, e6, e7, e8, pow18, ge, add_int, int_int]
theorem ix_lst {l : List F.D} {r : Int} (h0 : 0 ≤ r) (h1 : r < l.length) : ∃ d ∈ l, ixD (.lst l) (.int r) = some d := by
  obtain ⟨d, hd, hg⟩ := getI_nat h0 h1
  exact ⟨d, hd, hg⟩
theorem ix_str {x : List Nat} {r : Int} (h0 : 0 ≤ r) (h1 : r < x.length) : ∃ c ∈ x, ixD (.str x) (.int r) = some (.str [c]) := by
  obtain ⟨c, hc, hg⟩ := getI_nat h0 h1
  refine ⟨c, hc, ?_⟩
  show (getI x r).map _ = _
  rw [hg]
  rfl
abbrev OkC (y : List Nat) : Prop := ∀ c ∈ y, c ∈ cl7
theorem OkC.tl {c : Nat} {y : List Nat} (h : OkC (c :: y)) : OkC y := fun d hd => h d (List.mem_cons_of_mem _ hd)
theorem cl_known : ∀ c ∈ cl7, c ∈ c_KNOWN ∧ c ∉ c_BEGINS ∧ c ≠ 61 := by decide
theorem unk_ok : ∀ (y : List Nat) (n : Nat), OkC y → idxs c_KNOWN n y = []
  | [], _, _ => rfl
  | c :: y, n, h => by
    unfold idxs
    rw [if_pos (cl_known c (h c (List.mem_cons_self ..))).1]
    exact unk_ok y (n + 1) h.tl
theorem over_ok : ∀ (y : List Nat) (n k : Nat), OkC y → overO n k y = none
  | [], _, _, _ => rfl
  | c :: y, n, k, h => by
    have q := cl_known c (h c (List.mem_cons_self ..))
    unfold overO
    rw [if_neg q.2.1, if_neg q.2.2]
    exact over_ok y (n + 1) k h.tl
theorem fault_ok {y : List Nat} (h : OkC y) : faultO y = none := by
  unfold faultO unkO
  rw [unk_ok y 0 h, over_ok y 0 0 h]
  rfl
theorem ids_ok : ∀ (y : List Nat) (n : Nat), OkC y → idxs c_CLASSES n y = []
  | [], _, _ => rfl
  | c :: y, n, h => by
    unfold idxs
    rw [if_pos (show c ∈ c_CLASSES from h c (List.mem_cons_self ..))]
    exact ids_ok y (n + 1) h.tl
theorem ids_app {s : Nat} (hs : s ∉ c_CLASSES) (q : List Nat) : ∀ (p : List Nat) (n : Nat), OkC p → idxs c_CLASSES n (p ++ s :: q) = (n + p.length) :: idxs c_CLASSES (n + p.length + 1) q
  | [], n, _ => by
    show (if s ∈ c_CLASSES then _ else _) = _
    rw [if_neg hs]
    rfl
  | c :: p, n, h => by
    show (if c ∈ c_CLASSES then idxs c_CLASSES (n + 1) (p ++ s :: q) else _) = _
    rw [if_pos (show c ∈ c_CLASSES from h c (List.mem_cons_self ..)), ids_app hs q p (n + 1) h.tl]
    simp only [List.length_cons]
    rw [show n + 1 + p.length = n + (p.length + 1) by omega]
theorem lc_need (kn : List Nat) (e0 e2 e3 : Option O) : ∀ (x : List Nat) (n : Nat) (acc : List F.D), lcL [4, 5] (.tp [(.nm 4), (.nm 5)]) (mTB (mOp2 ninD (mVar 5) (mVar 1))) (mVar 4) (enumF n (x.map chD)) acc [e0, some (.sh (.str kn)), e2, e3, none, none] = .ok (acc ++ (idxs kn n x).map fun i => F.D.int (i : Nat)) [e0, some (.sh (.str kn)), e2, e3, none, none]
  | [], n, acc => by simp [enumF, lcL, idxs]
  | c :: x, n, acc => by
    have ih := lc_need kn e0 e2 e3 x (n + 1)
    have h := nin_ch c kn
    by_cases hc : c ∈ kn
    · have e : lcOne [4, 5] (.tp [(.nm 4), (.nm 5)]) (mTB (mOp2 ninD (mVar 5) (mVar 1))) (mVar 4) (.tup [.int (n : Nat), chD c]) [e0, some (.sh (.str kn)), e2, e3, none, none] = some (none, [e0, some (.sh (.str kn)), e2, e3, none, none]) := by
        rw [decide_eq_true hc] at h
        simp only [lcOne, chD, runF, gdO, finR, endF, allO, sSeq, sSet, setR, sOf, leak, mNextS, andThen, mVar, mC, slot, peek, peeks, nrm, O.pk, O.frz, mIf, mTB, mTru, mAnd, mOr, mNot, mOp1, mOp2, mOl1, mOl2, mTup, mLst, mLks, mDct, mDvs, mBi, mBl, mRs, mSm0, mSm1, mSl, mSlL, mPt, mIt, mItZ, zipR, mCall, asArgs, asArg, back, ofRes, mergeO, ofO, ofOS, sIf, sRet, sRetN, sPass, sExp, sAug, sUnp, sPar, sAsg2, sSto, sBrk, sCnt, sFor, sDrop, sMatch, mtL, mOs, setAll, sPut, mItK, mMut0, mMut1, wipeE, unwipe, lcEnd, mLc, mYes, mItS, mItR, mChain, mStar, mLstD, sSlSto, mCallV, mGet2, zipS, mBad, sBad, mNotV, mAndV, mOrV, Tg.put, putAll, List.map_cons, List.map_nil, List.replicate, List.cons_append, List.nil_append, List.getElem?_cons_zero, List.getElem?_cons_succ, Option.bind_some, List.set_cons_zero, List.set_cons_succ, List.take_succ_cons, List.take_zero, List.headD_cons, List.headD_nil, List.tail_cons, List.tail_nil, Option.map_some, Option.map_none, if_true, if_false, Bool.false_eq_true, ite_true, ite_false, Bool.not_true, Bool.not_false, Bool.true_and, Bool.false_and, List.contains, List.elem, List.append_nil, List.length_cons, List.length_nil, Nat.zero_add, Nat.reduceAdd, Nat.reduceLeDiff, lim, Nat.reduceBEq, beq_self_eq_true, Bool.and_self, h]
      rw [List.map_cons, enumF, lc_eq e, ih]
      simp [idxs, hc]
    · have e : lcOne [4, 5] (.tp [(.nm 4), (.nm 5)]) (mTB (mOp2 ninD (mVar 5) (mVar 1))) (mVar 4) (.tup [.int (n : Nat), chD c]) [e0, some (.sh (.str kn)), e2, e3, none, none] = some (some (.int (n : Nat)), [e0, some (.sh (.str kn)), e2, e3, none, none]) := by
        rw [decide_eq_false hc] at h
        simp only [lcOne, chD, runF, gdO, finR, endF, allO, sSeq, sSet, setR, sOf, leak, mNextS, andThen, mVar, mC, slot, peek, peeks, nrm, O.pk, O.frz, mIf, mTB, mTru, mAnd, mOr, mNot, mOp1, mOp2, mOl1, mOl2, mTup, mLst, mLks, mDct, mDvs, mBi, mBl, mRs, mSm0, mSm1, mSl, mSlL, mPt, mIt, mItZ, zipR, mCall, asArgs, asArg, back, ofRes, mergeO, ofO, ofOS, sIf, sRet, sRetN, sPass, sExp, sAug, sUnp, sPar, sAsg2, sSto, sBrk, sCnt, sFor, sDrop, sMatch, mtL, mOs, setAll, sPut, mItK, mMut0, mMut1, wipeE, unwipe, lcEnd, mLc, mYes, mItS, mItR, mChain, mStar, mLstD, sSlSto, mCallV, mGet2, zipS, mBad, sBad, mNotV, mAndV, mOrV, Tg.put, putAll, List.map_cons, List.map_nil, List.replicate, List.cons_append, List.nil_append, List.getElem?_cons_zero, List.getElem?_cons_succ, Option.bind_some, List.set_cons_zero, List.set_cons_succ, List.take_succ_cons, List.take_zero, List.headD_cons, List.headD_nil, List.tail_cons, List.tail_nil, Option.map_some, Option.map_none, if_true, if_false, Bool.false_eq_true, ite_true, ite_false, Bool.not_true, Bool.not_false, Bool.true_and, Bool.false_and, List.contains, List.elem, List.append_nil, List.length_cons, List.length_nil, Nat.zero_add, Nat.reduceAdd, Nat.reduceLeDiff, lim, Nat.reduceBEq, beq_self_eq_true, Bool.and_self, h]
      rw [List.map_cons, enumF, lc_eq e, ih]
      simp [idxs, hc]
theorem z_need {y : List Nat} (hy : OkC y) (hn : y.length ≤ 400) : Z_need_text [.sh (.str y), .sh (.str c_CLASSES)] = .rt (.sh .non) [.sh (.str y), .sh (.str c_CLASSES)] := by
  have is : isiD .str (.str y) = some (.bl true) := rfl
  have ln := len_str y
  have g := gt_int (y.length : Nat) 400
  rw [decide_eq_false (by omega)] at g
  have i := itES_x y
  have hl : ((enumF 0 (y.map chD)).length ≤ 16777216) = True := eq_true (by rw [enumF_len, List.length_map]; omega)
  have lc := fun e0 e2 e3 => lc_need c_CLASSES e0 e2 e3 y 0 []
  rw [ids_ok y 0 hy] at lc
  have z := z_fault y (by omega)
  rw [fault_ok hy] at z
  have ne : neD (.lst []) (.lst []) = some (.bl false) := rfl
  have nn : isntD (optD none) .non = some (.bl false) := rfl
  simp only [List.map_nil, List.append_nil] at lc
  generalize enumF 0 (y.map chD) = I at *
  generalize ((y.length : Nat) : Int) = L at *
  generalize optD none = on at *
  generalize c_CLASSES = cc at *
  simp only [Z_need_text, m_need_text, runF, gdO, finR, endF, allO, sSeq, sSet, setR, sOf, leak, mNextS, andThen, mVar, mC, slot, peek, peeks, nrm, O.pk, O.frz, mIf, mTB, mTru, mAnd, mOr, mNot, mOp1, mOp2, mOl1, mOl2, mTup, mLst, mLks, mDct, mDvs, mBi, mBl, mRs, mSm0, mSm1, mSl, mSlL, mPt, mIt, mItZ, zipR, mCall, asArgs, asArg, back, ofRes, mergeO, ofO, ofOS, sIf, sRet, sRetN, sPass, sExp, sAug, sUnp, sPar, sAsg2, sSto, sBrk, sCnt, sFor, sDrop, sMatch, mtL, mOs, setAll, sPut, mItK, mMut0, mMut1, wipeE, unwipe, lcEnd, mLc, mYes, mItS, mItR, mChain, mStar, mLstD, sSlSto, mCallV, mGet2, zipS, mBad, sBad, mNotV, mAndV, mOrV, Tg.put, putAll, List.map_cons, List.map_nil, List.replicate, List.cons_append, List.nil_append, List.getElem?_cons_zero, List.getElem?_cons_succ, Option.bind_some, List.set_cons_zero, List.set_cons_succ, List.take_succ_cons, List.take_zero, List.headD_cons, List.headD_nil, List.tail_cons, List.tail_nil, Option.map_some, Option.map_none, if_true, if_false, Bool.false_eq_true, ite_true, ite_false, Bool.not_true, Bool.not_false, Bool.true_and, Bool.false_and, List.contains, List.elem, List.append_nil, List.length_cons, List.length_nil, Nat.zero_add, Nat.reduceAdd, Nat.reduceLeDiff, lim, Nat.reduceBEq, beq_self_eq_true, Bool.and_self, is, ln, g, i, hl, lc, ne, z, nn]
theorem z_need_bad {p q : List Nat} {s : Nat} (hp : OkC p) (hs : s ∉ c_CLASSES) (hn : (p ++ s :: q).length ≤ 400) : Z_need_text [.sh (.str (p ++ s :: q)), .sh (.str c_CLASSES)] = .ex 0 (.int (p.length : Nat)) [.sh (.str (p ++ s :: q)), .sh (.str c_CLASSES)] := by
  have is : isiD .str (.str (p ++ s :: q)) = some (.bl true) := rfl
  have ln := len_str (p ++ s :: q)
  have g := gt_int ((p ++ s :: q).length : Nat) 400
  rw [decide_eq_false (by omega)] at g
  have i := itES_x (p ++ s :: q)
  have hl : ((enumF 0 ((p ++ s :: q).map chD)).length ≤ 16777216) = True := eq_true (by rw [enumF_len, List.length_map]; omega)
  have lc := fun e0 e2 e3 => lc_need c_CLASSES e0 e2 e3 (p ++ s :: q) 0 []
  rw [ids_app hs q p 0 hp, Nat.zero_add] at lc
  have z := z_fault p (by rw [List.length_append] at hn; omega)
  rw [fault_ok hp] at z
  have ct : slS (.str (p ++ s :: q)) none (some ((p.length : Nat) : Int)) = some (.str p) := by
    show some (F.D.str (cut _ _ _)) = _
    rw [cut_to _ _ (by rw [List.length_append]; omega), List.take_left']
    rfl
  have ne := ne_nil (pls_nat (p.length :: idxs c_CLASSES (p.length + 1) q))
  have nn : isntD (optD none) .non = some (.bl false) := rfl
  have nm : isD (optD none) .non = some (.bl true) := rfl
  simp only [List.map_cons, List.nil_append] at lc ne
  have x0 := ixD_0 (.int (p.length : Nat)) ((idxs c_CLASSES (p.length + 1) q).map fun i => F.D.int (i : Nat))
  have em : (F.D.int (p.length : Nat) :: (idxs c_CLASSES (p.length + 1) q).map fun i => F.D.int (i : Nat)).isEmpty = false := rfl
  rw [em] at ne
  generalize (F.D.int (p.length : Nat) :: (idxs c_CLASSES (p.length + 1) q).map fun i => F.D.int (i : Nat)) = R at *
  generalize p ++ s :: q = y at *
  generalize enumF 0 (y.map chD) = I at *
  generalize ((y.length : Nat) : Int) = L at *
  generalize ((p.length : Nat) : Int) = P at *
  generalize optD none = on at *
  generalize c_CLASSES = cc at *
  simp only [Z_need_text, m_need_text, sRaise, runF, gdO, finR, endF, allO, sSeq, sSet, setR, sOf, leak, mNextS, andThen, mVar, mC, slot, peek, peeks, nrm, O.pk, O.frz, mIf, mTB, mTru, mAnd, mOr, mNot, mOp1, mOp2, mOl1, mOl2, mTup, mLst, mLks, mDct, mDvs, mBi, mBl, mRs, mSm0, mSm1, mSl, mSlL, mPt, mIt, mItZ, zipR, mCall, asArgs, asArg, back, ofRes, mergeO, ofO, ofOS, sIf, sRet, sRetN, sPass, sExp, sAug, sUnp, sPar, sAsg2, sSto, sBrk, sCnt, sFor, sDrop, sMatch, mtL, mOs, setAll, sPut, mItK, mMut0, mMut1, wipeE, unwipe, lcEnd, mLc, mYes, mItS, mItR, mChain, mStar, mLstD, sSlSto, mCallV, mGet2, zipS, mBad, sBad, mNotV, mAndV, mOrV, Tg.put, putAll, List.map_cons, List.map_nil, List.replicate, List.cons_append, List.nil_append, List.getElem?_cons_zero, List.getElem?_cons_succ, Option.bind_some, List.set_cons_zero, List.set_cons_succ, List.take_succ_cons, List.take_zero, List.headD_cons, List.headD_nil, List.tail_cons, List.tail_nil, Option.map_some, Option.map_none, if_true, if_false, Bool.false_eq_true, ite_true, ite_false, Bool.not_true, Bool.not_false, Bool.true_and, Bool.false_and, List.contains, List.elem, List.append_nil, List.length_cons, List.length_nil, Nat.zero_add, Nat.reduceAdd, Nat.reduceLeDiff, lim, Nat.reduceBEq, beq_self_eq_true, Bool.and_self, is, ln, g, i, hl, lc, ne, x0, ct, z, nn, nm]
theorem z_need_no {d : F.D} (h : isiD .str d = some (.bl false)) : Z_need_text [.sh d, .sh (.str c_CLASSES)] = .ex 0 .non [.sh d, .sh (.str c_CLASSES)] := by
  generalize c_CLASSES = cc at *
  simp only [Z_need_text, m_need_text, sRaise, runF, gdO, finR, endF, allO, sSeq, sSet, setR, sOf, leak, mNextS, andThen, mVar, mC, slot, peek, peeks, nrm, O.pk, O.frz, mIf, mTB, mTru, mAnd, mOr, mNot, mOp1, mOp2, mOl1, mOl2, mTup, mLst, mLks, mDct, mDvs, mBi, mBl, mRs, mSm0, mSm1, mSl, mSlL, mPt, mIt, mItZ, zipR, mCall, asArgs, asArg, back, ofRes, mergeO, ofO, ofOS, sIf, sRet, sRetN, sPass, sExp, sAug, sUnp, sPar, sAsg2, sSto, sBrk, sCnt, sFor, sDrop, sMatch, mtL, mOs, setAll, sPut, mItK, mMut0, mMut1, wipeE, unwipe, lcEnd, mLc, mYes, mItS, mItR, mChain, mStar, mLstD, sSlSto, mCallV, mGet2, zipS, mBad, sBad, mNotV, mAndV, mOrV, Tg.put, putAll, List.map_cons, List.map_nil, List.replicate, List.cons_append, List.nil_append, List.getElem?_cons_zero, List.getElem?_cons_succ, Option.bind_some, List.set_cons_zero, List.set_cons_succ, List.take_succ_cons, List.take_zero, List.headD_cons, List.headD_nil, List.tail_cons, List.tail_nil, Option.map_some, Option.map_none, if_true, if_false, Bool.false_eq_true, ite_true, ite_false, Bool.not_true, Bool.not_false, Bool.true_and, Bool.false_and, List.contains, List.elem, List.append_nil, List.length_cons, List.length_nil, Nat.zero_add, Nat.reduceAdd, Nat.reduceLeDiff, lim, Nat.reduceBEq, beq_self_eq_true, Bool.and_self, h]
theorem z_need_long {y : List Nat} (hn : 400 < y.length) : Z_need_text [.sh (.str y), .sh (.str c_CLASSES)] = .ex 0 .non [.sh (.str y), .sh (.str c_CLASSES)] := by
  have is : isiD .str (.str y) = some (.bl true) := rfl
  have ln := len_str y
  have g := gt_int (y.length : Nat) 400
  rw [decide_eq_true (by omega)] at g
  generalize ((y.length : Nat) : Int) = L at *
  generalize c_CLASSES = cc at *
  simp only [Z_need_text, m_need_text, sRaise, runF, gdO, finR, endF, allO, sSeq, sSet, setR, sOf, leak, mNextS, andThen, mVar, mC, slot, peek, peeks, nrm, O.pk, O.frz, mIf, mTB, mTru, mAnd, mOr, mNot, mOp1, mOp2, mOl1, mOl2, mTup, mLst, mLks, mDct, mDvs, mBi, mBl, mRs, mSm0, mSm1, mSl, mSlL, mPt, mIt, mItZ, zipR, mCall, asArgs, asArg, back, ofRes, mergeO, ofO, ofOS, sIf, sRet, sRetN, sPass, sExp, sAug, sUnp, sPar, sAsg2, sSto, sBrk, sCnt, sFor, sDrop, sMatch, mtL, mOs, setAll, sPut, mItK, mMut0, mMut1, wipeE, unwipe, lcEnd, mLc, mYes, mItS, mItR, mChain, mStar, mLstD, sSlSto, mCallV, mGet2, zipS, mBad, sBad, mNotV, mAndV, mOrV, Tg.put, putAll, List.map_cons, List.map_nil, List.replicate, List.cons_append, List.nil_append, List.getElem?_cons_zero, List.getElem?_cons_succ, Option.bind_some, List.set_cons_zero, List.set_cons_succ, List.take_succ_cons, List.take_zero, List.headD_cons, List.headD_nil, List.tail_cons, List.tail_nil, Option.map_some, Option.map_none, if_true, if_false, Bool.false_eq_true, ite_true, ite_false, Bool.not_true, Bool.not_false, Bool.true_and, Bool.false_and, List.contains, List.elem, List.append_nil, List.length_cons, List.length_nil, Nat.zero_add, Nat.reduceAdd, Nat.reduceLeDiff, lim, Nat.reduceBEq, beq_self_eq_true, Bool.and_self, is, ln, g]
def dirS (r : Bool) : List Nat := if r = true then c_RIGHT else c_LEFT
theorem z_dir (r : Bool) : Z_need_direction [.sh (.str (dirS r)), .sh (.tup [.str c_LEFT, .str c_RIGHT])] = .rt (.sh .non) [.sh (.str (dirS r)), .sh (.tup [.str c_LEFT, .str c_RIGHT])] := by cases r <;> rfl
theorem z_rl {x : List Nat} (hx : OkC x) (r : Bool) (hn : x.length ≤ 400) : Z_relative_levels [.sh (.str x), .sh (.str (dirS r))] = .rt (.sh (.tup (tab x.length (lev x r)))) [.sh (.str x), .sh (.str (dirS r))] := by
  have z1 := z_need hx hn
  have z2 := z_dir r
  have z3 := z_rs x r (by omega)
  have e : eqD (.str (dirS r)) (.str c_RIGHT) = some (.bl r) := by cases r <;> rfl
  generalize tab x.length (lev x r) = T at *
  generalize dirS r = dd at *
  simp only [Z_relative_levels, m_relative_levels, runF, gdO, finR, endF, allO, sSeq, sSet, setR, sOf, leak, mNextS, andThen, mVar, mC, slot, peek, peeks, nrm, O.pk, O.frz, mIf, mTB, mTru, mAnd, mOr, mNot, mOp1, mOp2, mOl1, mOl2, mTup, mLst, mLks, mDct, mDvs, mBi, mBl, mRs, mSm0, mSm1, mSl, mSlL, mPt, mIt, mItZ, zipR, mCall, asArgs, asArg, back, ofRes, mergeO, ofO, ofOS, sIf, sRet, sRetN, sPass, sExp, sAug, sUnp, sPar, sAsg2, sSto, sBrk, sCnt, sFor, sDrop, sMatch, mtL, mOs, setAll, sPut, mItK, mMut0, mMut1, wipeE, unwipe, lcEnd, mLc, mYes, mItS, mItR, mChain, mStar, mLstD, sSlSto, mCallV, mGet2, zipS, mBad, sBad, mNotV, mAndV, mOrV, Tg.put, putAll, List.map_cons, List.map_nil, List.replicate, List.cons_append, List.nil_append, List.getElem?_cons_zero, List.getElem?_cons_succ, Option.bind_some, List.set_cons_zero, List.set_cons_succ, List.take_succ_cons, List.take_zero, List.headD_cons, List.headD_nil, List.tail_cons, List.tail_nil, Option.map_some, Option.map_none, if_true, if_false, Bool.false_eq_true, ite_true, ite_false, Bool.not_true, Bool.not_false, Bool.true_and, Bool.false_and, List.contains, List.elem, List.append_nil, List.length_cons, List.length_nil, Nat.zero_add, Nat.reduceAdd, Nat.reduceLeDiff, lim, Nat.reduceBEq, beq_self_eq_true, Bool.and_self, z1, z2, z3, e]
theorem z_rl_text {d : F.D} {p : F.D} {w : F.D} (h : Z_need_text [.sh d, .sh (.str c_CLASSES)] = .ex 0 p [.sh d, .sh (.str c_CLASSES)]) : Z_relative_levels [.sh d, .sh w] = .ex 0 p [.sh d, .sh w] := by
  simp only [Z_relative_levels, m_relative_levels, runF, gdO, finR, endF, allO, sSeq, sSet, setR, sOf, leak, mNextS, andThen, mVar, mC, slot, peek, peeks, nrm, O.pk, O.frz, mIf, mTB, mTru, mAnd, mOr, mNot, mOp1, mOp2, mOl1, mOl2, mTup, mLst, mLks, mDct, mDvs, mBi, mBl, mRs, mSm0, mSm1, mSl, mSlL, mPt, mIt, mItZ, zipR, mCall, asArgs, asArg, back, ofRes, mergeO, ofO, ofOS, sIf, sRet, sRetN, sPass, sExp, sAug, sUnp, sPar, sAsg2, sSto, sBrk, sCnt, sFor, sDrop, sMatch, mtL, mOs, setAll, sPut, mItK, mMut0, mMut1, wipeE, unwipe, lcEnd, mLc, mYes, mItS, mItR, mChain, mStar, mLstD, sSlSto, mCallV, mGet2, zipS, mBad, sBad, mNotV, mAndV, mOrV, Tg.put, putAll, List.map_cons, List.map_nil, List.replicate, List.cons_append, List.nil_append, List.getElem?_cons_zero, List.getElem?_cons_succ, Option.bind_some, List.set_cons_zero, List.set_cons_succ, List.take_succ_cons, List.take_zero, List.headD_cons, List.headD_nil, List.tail_cons, List.tail_nil, Option.map_some, Option.map_none, if_true, if_false, Bool.false_eq_true, ite_true, ite_false, Bool.not_true, Bool.not_false, Bool.true_and, Bool.false_and, List.contains, List.elem, List.append_nil, List.length_cons, List.length_nil, Nat.zero_add, Nat.reduceAdd, Nat.reduceLeDiff, lim, Nat.reduceBEq, beq_self_eq_true, Bool.and_self, h]
theorem z_rl_word {x : List Nat} (hx : OkC x) (hn : x.length ≤ 400) {w : F.D} (h : Z_need_direction [.sh w, .sh (.tup [.str c_LEFT, .str c_RIGHT])] = .ex 1 w [.sh w, .sh (.tup [.str c_LEFT, .str c_RIGHT])]) : Z_relative_levels [.sh (.str x), .sh w] = .ex 1 w [.sh (.str x), .sh w] := by
  have z1 := z_need hx hn
  simp only [Z_relative_levels, m_relative_levels, runF, gdO, finR, endF, allO, sSeq, sSet, setR, sOf, leak, mNextS, andThen, mVar, mC, slot, peek, peeks, nrm, O.pk, O.frz, mIf, mTB, mTru, mAnd, mOr, mNot, mOp1, mOp2, mOl1, mOl2, mTup, mLst, mLks, mDct, mDvs, mBi, mBl, mRs, mSm0, mSm1, mSl, mSlL, mPt, mIt, mItZ, zipR, mCall, asArgs, asArg, back, ofRes, mergeO, ofO, ofOS, sIf, sRet, sRetN, sPass, sExp, sAug, sUnp, sPar, sAsg2, sSto, sBrk, sCnt, sFor, sDrop, sMatch, mtL, mOs, setAll, sPut, mItK, mMut0, mMut1, wipeE, unwipe, lcEnd, mLc, mYes, mItS, mItR, mChain, mStar, mLstD, sSlSto, mCallV, mGet2, zipS, mBad, sBad, mNotV, mAndV, mOrV, Tg.put, putAll, List.map_cons, List.map_nil, List.replicate, List.cons_append, List.nil_append, List.getElem?_cons_zero, List.getElem?_cons_succ, Option.bind_some, List.set_cons_zero, List.set_cons_succ, List.take_succ_cons, List.take_zero, List.headD_cons, List.headD_nil, List.tail_cons, List.tail_nil, Option.map_some, Option.map_none, if_true, if_false, Bool.false_eq_true, ite_true, ite_false, Bool.not_true, Bool.not_false, Bool.true_and, Bool.false_and, List.contains, List.elem, List.append_nil, List.length_cons, List.length_nil, Nat.zero_add, Nat.reduceAdd, Nat.reduceLeDiff, lim, Nat.reduceBEq, beq_self_eq_true, Bool.and_self, z1, h]
end F
end

section
set_option linter.all false
set_option autoImplicit false
set_option maxRecDepth 100000
set_option maxHeartbeats 1000000
/-! k23: what is refused -/
namespace F
theorem ref_ok {a b : F.D} {o : F.D} (h : Z_relative_levels [.sh a, .sh b] = .rt (.sh o) [.sh a, .sh b]) : Z__law_refused [.sh a, .sh b] = .rt (.sh .non) [.sh a, .sh b] := by
  simp only [Z__law_refused, m__law_refused, sTryM, runF, gdO, finR, endF, allO, sSeq, sSet, setR, sOf, leak, mNextS, andThen, mVar, mC, slot, peek, peeks, nrm, O.pk, O.frz, mIf, mTB, mTru, mAnd, mOr, mNot, mOp1, mOp2, mOl1, mOl2, mTup, mLst, mLks, mDct, mDvs, mBi, mBl, mRs, mSm0, mSm1, mSl, mSlL, mPt, mIt, mItZ, zipR, mCall, asArgs, asArg, back, ofRes, mergeO, ofO, ofOS, sIf, sRet, sRetN, sPass, sExp, sAug, sUnp, sPar, sAsg2, sSto, sBrk, sCnt, sFor, sDrop, sMatch, mtL, mOs, setAll, sPut, mItK, mMut0, mMut1, wipeE, unwipe, lcEnd, mLc, mYes, mItS, mItR, mChain, mStar, mLstD, sSlSto, mCallV, mGet2, zipS, mBad, sBad, mNotV, mAndV, mOrV, Tg.put, putAll, List.map_cons, List.map_nil, List.replicate, List.cons_append, List.nil_append, List.getElem?_cons_zero, List.getElem?_cons_succ, Option.bind_some, List.set_cons_zero, List.set_cons_succ, List.take_succ_cons, List.take_zero, List.headD_cons, List.headD_nil, List.tail_cons, List.tail_nil, Option.map_some, Option.map_none, if_true, if_false, Bool.false_eq_true, ite_true, ite_false, Bool.not_true, Bool.not_false, Bool.true_and, Bool.false_and, List.contains, List.elem, List.append_nil, List.length_cons, List.length_nil, Nat.zero_add, Nat.reduceAdd, Nat.reduceLeDiff, lim, Nat.reduceBEq, beq_self_eq_true, Bool.and_self, h]
theorem ref_text {a b p : F.D} (ha : (O.sh a).exs g9 = true) (hb : (O.sh b).exs g9 = true) (hp : (O.fl [.str [116, 101, 120, 116], p]).exs g9 = true) (h : Z_relative_levels [.sh a, .sh b] = .ex 0 p [.sh a, .sh b]) : Z__law_refused [.sh a, .sh b] = .rt (.fl [.str [116, 101, 120, 116], p]) [.sh a, .sh b] := by
  have body : (sExp (mCall Z_relative_levels [] [] [(mVar 0), (mVar 1)])) [some (.sh a), some (.sh b), none] = .ex 0 p [some (.sh a), some (.sh b), none] := by
    simp only [runF, gdO, finR, endF, allO, sSeq, sSet, setR, sOf, leak, mNextS, andThen, mVar, mC, slot, peek, peeks, nrm, O.pk, O.frz, mIf, mTB, mTru, mAnd, mOr, mNot, mOp1, mOp2, mOl1, mOl2, mTup, mLst, mLks, mDct, mDvs, mBi, mBl, mRs, mSm0, mSm1, mSl, mSlL, mPt, mIt, mItZ, zipR, mCall, asArgs, asArg, back, ofRes, mergeO, ofO, ofOS, sIf, sRet, sRetN, sPass, sExp, sAug, sUnp, sPar, sAsg2, sSto, sBrk, sCnt, sFor, sDrop, sMatch, mtL, mOs, setAll, sPut, mItK, mMut0, mMut1, wipeE, unwipe, lcEnd, mLc, mYes, mItS, mItR, mChain, mStar, mLstD, sSlSto, mCallV, mGet2, zipS, mBad, sBad, mNotV, mAndV, mOrV, Tg.put, putAll, List.map_cons, List.map_nil, List.replicate, List.cons_append, List.nil_append, List.getElem?_cons_zero, List.getElem?_cons_succ, Option.bind_some, List.set_cons_zero, List.set_cons_succ, List.take_succ_cons, List.take_zero, List.headD_cons, List.headD_nil, List.tail_cons, List.tail_nil, Option.map_some, Option.map_none, if_true, if_false, Bool.false_eq_true, ite_true, ite_false, Bool.not_true, Bool.not_false, Bool.true_and, Bool.false_and, List.contains, List.elem, List.append_nil, List.length_cons, List.length_nil, Nat.zero_add, Nat.reduceAdd, Nat.reduceLeDiff, lim, Nat.reduceBEq, beq_self_eq_true, Bool.and_self, h]
  have cl : cleanE [some (.sh a), some (.sh b), none] = [some (.sh a), some (.sh b), none] := by
    unfold cleanE
    simp only [List.map_cons, List.map_nil, ha, hb, if_true]
  have su : (sRet (mLst [(mC (.str [116, 101, 120, 116])), (mXf 2 0)])) [some (.sh a), some (.sh b), some (.sh (.ex 9 (.tup [.int (0 : Nat), p])))] = .rt (.fl [.str [116, 101, 120, 116], p]) [some (.sh a), some (.sh b), some (.sh (.ex 9 (.tup [.int (0 : Nat), p])))] := by
    have x : (mXf 2 0) [some (.sh a), some (.sh b), some (.sh (.ex 9 (.tup [.int (0 : Nat), p])))] = .ok (.d p) [some (.sh a), some (.sh b), some (.sh (.ex 9 (.tup [.int (0 : Nat), p])))] := rfl
    generalize D.ex 9 (.tup [.int (0 : Nat), p]) = w at *
    generalize mXf 2 0 = mx at *
    simp only [runF, gdO, finR, endF, allO, sSeq, sSet, setR, sOf, leak, mNextS, andThen, mVar, mC, slot, peek, peeks, nrm, O.pk, O.frz, mIf, mTB, mTru, mAnd, mOr, mNot, mOp1, mOp2, mOl1, mOl2, mTup, mLst, mLks, mDct, mDvs, mBi, mBl, mRs, mSm0, mSm1, mSl, mSlL, mPt, mIt, mItZ, zipR, mCall, asArgs, asArg, back, ofRes, mergeO, ofO, ofOS, sIf, sRet, sRetN, sPass, sExp, sAug, sUnp, sPar, sAsg2, sSto, sBrk, sCnt, sFor, sDrop, sMatch, mtL, mOs, setAll, sPut, mItK, mMut0, mMut1, wipeE, unwipe, lcEnd, mLc, mYes, mItS, mItR, mChain, mStar, mLstD, sSlSto, mCallV, mGet2, zipS, mBad, sBad, mNotV, mAndV, mOrV, Tg.put, putAll, List.map_cons, List.map_nil, List.replicate, List.cons_append, List.nil_append, List.getElem?_cons_zero, List.getElem?_cons_succ, Option.bind_some, List.set_cons_zero, List.set_cons_succ, List.take_succ_cons, List.take_zero, List.headD_cons, List.headD_nil, List.tail_cons, List.tail_nil, Option.map_some, Option.map_none, if_true, if_false, Bool.false_eq_true, ite_true, ite_false, Bool.not_true, Bool.not_false, Bool.true_and, Bool.false_and, List.contains, List.elem, List.append_nil, List.length_cons, List.length_nil, Nat.zero_add, Nat.reduceAdd, Nat.reduceLeDiff, lim, Nat.reduceBEq, beq_self_eq_true, Bool.and_self, x]
  unfold Z__law_refused m__law_refused
  have tr : ∀ rest, sTryM (((fun k => match k with | 0 => some true | 1 => some false | _ => none), some 2, (sRet (mLst [(mC (.str [116, 101, 120, 116])), (mXf 2 0)]))) :: rest) (sExp (mCall Z_relative_levels [] [] [(mVar 0), (mVar 1)])) [some (.sh a), some (.sh b), none] = .rt (.fl [.str [116, 101, 120, 116], p]) [some (.sh a), some (.sh b), none] := fun rest => by
    unfold sTryM
    rw [body]
    show sufEndO (some 2) ((sRet (mLst [(mC (.str [116, 101, 120, 116])), (mXf 2 0)])) [some (.sh a), some (.sh b), some (.sh (.ex 9 (.tup [.int (0 : Nat), p])))]) = _
    rw [su]
    show (if (O.fl [.str [116, 101, 120, 116], p]).exs g9 = true then SR.rt (O.fl [.str [116, 101, 120, 116], p]) (cleanE [some (.sh a), some (.sh b), none]) else .bad) = _
    rw [if_pos hp, cl]
  generalize hT : sTryM _ _ = T
  have tr2 : T [some (.sh a), some (.sh b), none] = .rt (.fl [.str [116, 101, 120, 116], p]) [some (.sh a), some (.sh b), none] := by
    rw [← hT]
    exact tr _
  simp only [runF, gdO, finR, endF, allO, sSeq, sSet, setR, sOf, leak, mNextS, andThen, mVar, mC, slot, peek, peeks, nrm, O.pk, O.frz, mIf, mTB, mTru, mAnd, mOr, mNot, mOp1, mOp2, mOl1, mOl2, mTup, mLst, mLks, mDct, mDvs, mBi, mBl, mRs, mSm0, mSm1, mSl, mSlL, mPt, mIt, mItZ, zipR, mCall, asArgs, asArg, back, ofRes, mergeO, ofO, ofOS, sIf, sRet, sRetN, sPass, sExp, sAug, sUnp, sPar, sAsg2, sSto, sBrk, sCnt, sFor, sDrop, sMatch, mtL, mOs, setAll, sPut, mItK, mMut0, mMut1, wipeE, unwipe, lcEnd, mLc, mYes, mItS, mItR, mChain, mStar, mLstD, sSlSto, mCallV, mGet2, zipS, mBad, sBad, mNotV, mAndV, mOrV, Tg.put, putAll, List.map_cons, List.map_nil, List.replicate, List.cons_append, List.nil_append, List.getElem?_cons_zero, List.getElem?_cons_succ, Option.bind_some, List.set_cons_zero, List.set_cons_succ, List.take_succ_cons, List.take_zero, List.headD_cons, List.headD_nil, List.tail_cons, List.tail_nil, Option.map_some, Option.map_none, if_true, if_false, Bool.false_eq_true, ite_true, ite_false, Bool.not_true, Bool.not_false, Bool.true_and, Bool.false_and, List.contains, List.elem, List.append_nil, List.length_cons, List.length_nil, Nat.zero_add, Nat.reduceAdd, Nat.reduceLeDiff, lim, Nat.reduceBEq, beq_self_eq_true, Bool.and_self, tr2]
theorem ref_word {a p : F.D} {t : List Nat} (ha : (O.sh a).exs g9 = true) (hp : (O.sh p).exs g9 = true) (hr : reprZ [p] = some (.str t)) (h : Z_relative_levels [.sh a, .sh p] = .ex 1 p [.sh a, .sh p]) : Z__law_refused [.sh a, .sh p] = .rt (.fl [.str [119, 111, 114, 100], .str t]) [.sh a, .sh p] := by
  have body : (sExp (mCall Z_relative_levels [] [] [(mVar 0), (mVar 1)])) [some (.sh a), some (.sh p), none] = .ex 1 p [some (.sh a), some (.sh p), none] := by
    simp only [runF, gdO, finR, endF, allO, sSeq, sSet, setR, sOf, leak, mNextS, andThen, mVar, mC, slot, peek, peeks, nrm, O.pk, O.frz, mIf, mTB, mTru, mAnd, mOr, mNot, mOp1, mOp2, mOl1, mOl2, mTup, mLst, mLks, mDct, mDvs, mBi, mBl, mRs, mSm0, mSm1, mSl, mSlL, mPt, mIt, mItZ, zipR, mCall, asArgs, asArg, back, ofRes, mergeO, ofO, ofOS, sIf, sRet, sRetN, sPass, sExp, sAug, sUnp, sPar, sAsg2, sSto, sBrk, sCnt, sFor, sDrop, sMatch, mtL, mOs, setAll, sPut, mItK, mMut0, mMut1, wipeE, unwipe, lcEnd, mLc, mYes, mItS, mItR, mChain, mStar, mLstD, sSlSto, mCallV, mGet2, zipS, mBad, sBad, mNotV, mAndV, mOrV, Tg.put, putAll, List.map_cons, List.map_nil, List.replicate, List.cons_append, List.nil_append, List.getElem?_cons_zero, List.getElem?_cons_succ, Option.bind_some, List.set_cons_zero, List.set_cons_succ, List.take_succ_cons, List.take_zero, List.headD_cons, List.headD_nil, List.tail_cons, List.tail_nil, Option.map_some, Option.map_none, if_true, if_false, Bool.false_eq_true, ite_true, ite_false, Bool.not_true, Bool.not_false, Bool.true_and, Bool.false_and, List.contains, List.elem, List.append_nil, List.length_cons, List.length_nil, Nat.zero_add, Nat.reduceAdd, Nat.reduceLeDiff, lim, Nat.reduceBEq, beq_self_eq_true, Bool.and_self, h]
  have cl : cleanE [some (.sh a), some (.sh p), none] = [some (.sh a), some (.sh p), none] := by
    unfold cleanE
    simp only [List.map_cons, List.map_nil, ha, hp, if_true]
  have su : (sRet (mLst [(mC (.str [119, 111, 114, 100])), (mBi reprZ [(mXf 2 1)])])) [some (.sh a), some (.sh p), some (.sh (.ex 9 (.tup [.int (1 : Nat), p])))] = .rt (.fl [.str [119, 111, 114, 100], .str t]) [some (.sh a), some (.sh p), some (.sh (.ex 9 (.tup [.int (1 : Nat), p])))] := by
    have x : (mXf 2 1) [some (.sh a), some (.sh p), some (.sh (.ex 9 (.tup [.int (1 : Nat), p])))] = .ok (.d p) [some (.sh a), some (.sh p), some (.sh (.ex 9 (.tup [.int (1 : Nat), p])))] := rfl
    generalize D.ex 9 (.tup [.int (1 : Nat), p]) = w at *
    generalize mXf 2 1 = mx at *
    generalize reprZ = rz at *
    simp only [runF, gdO, finR, endF, allO, sSeq, sSet, setR, sOf, leak, mNextS, andThen, mVar, mC, slot, peek, peeks, nrm, O.pk, O.frz, mIf, mTB, mTru, mAnd, mOr, mNot, mOp1, mOp2, mOl1, mOl2, mTup, mLst, mLks, mDct, mDvs, mBi, mBl, mRs, mSm0, mSm1, mSl, mSlL, mPt, mIt, mItZ, zipR, mCall, asArgs, asArg, back, ofRes, mergeO, ofO, ofOS, sIf, sRet, sRetN, sPass, sExp, sAug, sUnp, sPar, sAsg2, sSto, sBrk, sCnt, sFor, sDrop, sMatch, mtL, mOs, setAll, sPut, mItK, mMut0, mMut1, wipeE, unwipe, lcEnd, mLc, mYes, mItS, mItR, mChain, mStar, mLstD, sSlSto, mCallV, mGet2, zipS, mBad, sBad, mNotV, mAndV, mOrV, Tg.put, putAll, List.map_cons, List.map_nil, List.replicate, List.cons_append, List.nil_append, List.getElem?_cons_zero, List.getElem?_cons_succ, Option.bind_some, List.set_cons_zero, List.set_cons_succ, List.take_succ_cons, List.take_zero, List.headD_cons, List.headD_nil, List.tail_cons, List.tail_nil, Option.map_some, Option.map_none, if_true, if_false, Bool.false_eq_true, ite_true, ite_false, Bool.not_true, Bool.not_false, Bool.true_and, Bool.false_and, List.contains, List.elem, List.append_nil, List.length_cons, List.length_nil, Nat.zero_add, Nat.reduceAdd, Nat.reduceLeDiff, lim, Nat.reduceBEq, beq_self_eq_true, Bool.and_self, x, hr]
  unfold Z__law_refused m__law_refused
  have tr : ∀ (h1 : MS), sTryM [((fun k => match k with | 0 => some true | 1 => some false | _ => none), some 2, h1), ((fun k => match k with | 0 => some false | 1 => some true | _ => none), some 2, (sRet (mLst [(mC (.str [119, 111, 114, 100])), (mBi reprZ [(mXf 2 1)])])))] (sExp (mCall Z_relative_levels [] [] [(mVar 0), (mVar 1)])) [some (.sh a), some (.sh p), none] = .rt (.fl [.str [119, 111, 114, 100], .str t]) [some (.sh a), some (.sh p), none] := fun h1 => by
    unfold sTryM
    rw [body]
    show sufEndO (some 2) ((sRet (mLst [(mC (.str [119, 111, 114, 100])), (mBi reprZ [(mXf 2 1)])])) [some (.sh a), some (.sh p), some (.sh (.ex 9 (.tup [.int (1 : Nat), p])))]) = _
    rw [su]
    show (if (O.fl [.str [119, 111, 114, 100], .str t]).exs g9 = true then SR.rt (O.fl [.str [119, 111, 114, 100], .str t]) (cleanE [some (.sh a), some (.sh p), none]) else .bad) = _
    rw [if_pos (show (O.fl [.str [119, 111, 114, 100], .str t]).exs g9 = true from rfl), cl]
  generalize hT : sTryM _ _ = T
  have tr2 : T [some (.sh a), some (.sh p), none] = .rt (.fl [.str [119, 111, 114, 100], .str t]) [some (.sh a), some (.sh p), none] := by
    rw [← hT]
    exact tr _
  simp only [runF, gdO, finR, endF, allO, sSeq, sSet, setR, sOf, leak, mNextS, andThen, mVar, mC, slot, peek, peeks, nrm, O.pk, O.frz, mIf, mTB, mTru, mAnd, mOr, mNot, mOp1, mOp2, mOl1, mOl2, mTup, mLst, mLks, mDct, mDvs, mBi, mBl, mRs, mSm0, mSm1, mSl, mSlL, mPt, mIt, mItZ, zipR, mCall, asArgs, asArg, back, ofRes, mergeO, ofO, ofOS, sIf, sRet, sRetN, sPass, sExp, sAug, sUnp, sPar, sAsg2, sSto, sBrk, sCnt, sFor, sDrop, sMatch, mtL, mOs, setAll, sPut, mItK, mMut0, mMut1, wipeE, unwipe, lcEnd, mLc, mYes, mItS, mItR, mChain, mStar, mLstD, sSlSto, mCallV, mGet2, zipS, mBad, sBad, mNotV, mAndV, mOrV, Tg.put, putAll, List.map_cons, List.map_nil, List.replicate, List.cons_append, List.nil_append, List.getElem?_cons_zero, List.getElem?_cons_succ, Option.bind_some, List.set_cons_zero, List.set_cons_succ, List.take_succ_cons, List.take_zero, List.headD_cons, List.headD_nil, List.tail_cons, List.tail_nil, Option.map_some, Option.map_none, if_true, if_false, Bool.false_eq_true, ite_true, ite_false, Bool.not_true, Bool.not_false, Bool.true_and, Bool.false_and, List.contains, List.elem, List.append_nil, List.length_cons, List.length_nil, Nat.zero_add, Nat.reduceAdd, Nat.reduceLeDiff, lim, Nat.reduceBEq, beq_self_eq_true, Bool.and_self, tr2]
/-! ### refusals -/
theorem exs_ch : ∀ x : List Nat, exsL g9 (x.map chD) = true
  | [] => rfl
  | c :: x => exs_ch x
abbrev up2 : List Nat := [117, 112]
theorem sign_turn {x : List Nat} (hx : OkC x) (hn : x.length ≤ 30) {r : Int} (r0 : 0 ≤ r) (r1 : r < (x.length : Nat) + 1) {s : Nat} (hs : s ∉ c_CLASSES) (b : O) (e4 e5 : Option O) : b__law_refusals_right_0 [some b, some (.sh (.str x)), some (.sh (.int r)), some (.sh (.str [s])), e4, e5] = .nx [some b, some (.sh (.str x)), some (.sh (.int r)), none, e4, e5] := by
  have hsl : r.toNat ≤ x.length := by omega
  have es : r = (r.toNat : Nat) := by omega
  have c1 : slS (.str x) none (some r) = some (.str (x.take r.toNat)) := by
    have := cut_to x r.toNat hsl
    rw [← es] at this
    show some (F.D.str (cut x none (some r))) = _
    rw [this]
  have c2 : slS (.str x) (some r) none = some (.str (x.drop r.toNat)) := by
    have := cut_fr x r.toNat hsl
    rw [← es] at this
    show some (F.D.str (cut x (some r) none)) = _
    rw [this]
  have t1 : (x.take r.toNat).length = r.toNat := by rw [List.length_take]; omega
  have t2 : (x.drop r.toNat).length ≤ 30 := by rw [List.length_drop]; omega
  have ad2 := add_str (x.take r.toNat) [s] (by simp only [List.length_cons, List.length_nil]; omega)
  have ad3 := add_str (x.take r.toNat ++ [s]) (x.drop r.toNat) (by rw [List.length_append]; simp only [List.length_cons, List.length_nil]; omega)
  have e : x.take r.toNat ++ [s] ++ x.drop r.toNat = x.take r.toNat ++ s :: x.drop r.toNat := by simp
  rw [e] at ad3
  have nb := z_need_bad (p := x.take r.toNat) (q := x.drop r.toNat) (s := s) (fun c hc => hx c (List.mem_of_mem_take hc)) hs (by rw [List.length_append, t1, List.length_cons]; omega)
  rw [t1, ← es] at nb
  have rf := ref_text (a := .str (x.take r.toNat ++ s :: x.drop r.toNat)) (b := .str up2) (p := .int r) rfl rfl rfl (z_rl_text nb)
  have ne := ne_refl (d := .lst [.str [116, 101, 120, 116], .int r]) rfl (by show max 1 0 ≤ 50 <;> decide)
  generalize x.take r.toNat ++ s :: x.drop r.toNat = y at *
  generalize x.take r.toNat ++ [s] = y1 at *
  generalize x.take r.toNat = y2 at *
  generalize x.drop r.toNat = y3 at *
  simp only [b__law_refusals_right_0, runF, gdO, finR, endF, allO, sSeq, sSet, setR, sOf, leak, mNextS, andThen, mVar, mC, slot, peek, peeks, nrm, O.pk, O.frz, mIf, mTB, mTru, mAnd, mOr, mNot, mOp1, mOp2, mOl1, mOl2, mTup, mLst, mLks, mDct, mDvs, mBi, mBl, mRs, mSm0, mSm1, mSl, mSlL, mPt, mIt, mItZ, zipR, mCall, asArgs, asArg, back, ofRes, mergeO, ofO, ofOS, sIf, sRet, sRetN, sPass, sExp, sAug, sUnp, sPar, sAsg2, sSto, sBrk, sCnt, sFor, sDrop, sMatch, mtL, mOs, setAll, sPut, mItK, mMut0, mMut1, wipeE, unwipe, lcEnd, mLc, mYes, mItS, mItR, mChain, mStar, mLstD, sSlSto, mCallV, mGet2, zipS, mBad, sBad, mNotV, mAndV, mOrV, Tg.put, putAll, List.map_cons, List.map_nil, List.replicate, List.cons_append, List.nil_append, List.getElem?_cons_zero, List.getElem?_cons_succ, Option.bind_some, List.set_cons_zero, List.set_cons_succ, List.take_succ_cons, List.take_zero, List.headD_cons, List.headD_nil, List.tail_cons, List.tail_nil, Option.map_some, Option.map_none, if_true, if_false, Bool.false_eq_true, ite_true, ite_false, Bool.not_true, Bool.not_false, Bool.true_and, Bool.false_and, List.contains, List.elem, List.append_nil, List.length_cons, List.length_nil, Nat.zero_add, Nat.reduceAdd, Nat.reduceLeDiff, lim, Nat.reduceBEq, beq_self_eq_true, Bool.and_self, c1, c2, ad2, ad3, rf, ne]
theorem word_turn {x : List Nat} (hx : OkC x) (hn : x.length ≤ 30) {w : F.D} {t : List Nat} (hw : (O.sh w).exs g9 = true) (hr : reprZ [w] = some (.str t)) (hd : Z_need_direction [.sh w, .sh (.tup [.str c_LEFT, .str c_RIGHT])] = .ex 1 w [.sh w, .sh (.tup [.str c_LEFT, .str c_RIGHT])]) (b : O) (e2 e3 e5 : Option O) :
    b__law_refusals_right_1 [some b, some (.sh (.str x)), e2, e3, some (.sh w), e5] = .nx [some b, some (.sh (.str x)), e2, e3, none, e5] := by
  have rf := ref_word (a := .str x) rfl hw hr (z_rl_word hx (by omega) hd)
  have ne := ne_refl (d := .lst [.str [119, 111, 114, 100], .str t]) rfl (by show max 1 0 ≤ 50 <;> decide)
  simp only [b__law_refusals_right_1, runF, gdO, finR, endF, allO, sSeq, sSet, setR, sOf, leak, mNextS, andThen, mVar, mC, slot, peek, peeks, nrm, O.pk, O.frz, mIf, mTB, mTru, mAnd, mOr, mNot, mOp1, mOp2, mOl1, mOl2, mTup, mLst, mLks, mDct, mDvs, mBi, mBl, mRs, mSm0, mSm1, mSl, mSlL, mPt, mIt, mItZ, zipR, mCall, asArgs, asArg, back, ofRes, mergeO, ofO, ofOS, sIf, sRet, sRetN, sPass, sExp, sAug, sUnp, sPar, sAsg2, sSto, sBrk, sCnt, sFor, sDrop, sMatch, mtL, mOs, setAll, sPut, mItK, mMut0, mMut1, wipeE, unwipe, lcEnd, mLc, mYes, mItS, mItR, mChain, mStar, mLstD, sSlSto, mCallV, mGet2, zipS, mBad, sBad, mNotV, mAndV, mOrV, Tg.put, putAll, List.map_cons, List.map_nil, List.replicate, List.cons_append, List.nil_append, List.getElem?_cons_zero, List.getElem?_cons_succ, Option.bind_some, List.set_cons_zero, List.set_cons_succ, List.take_succ_cons, List.take_zero, List.headD_cons, List.headD_nil, List.tail_cons, List.tail_nil, Option.map_some, Option.map_none, if_true, if_false, Bool.false_eq_true, ite_true, ite_false, Bool.not_true, Bool.not_false, Bool.true_and, Bool.false_and, List.contains, List.elem, List.append_nil, List.length_cons, List.length_nil, Nat.zero_add, Nat.reduceAdd, Nat.reduceLeDiff, lim, Nat.reduceBEq, beq_self_eq_true, Bool.and_self, rf, hr, ne]
theorem thing_turn {d : F.D} (hd : (O.sh d).exs g9 = true) (h : Z_need_text [.sh d, .sh (.str c_CLASSES)] = .ex 0 .non [.sh d, .sh (.str c_CLASSES)]) (b : O) (e1 e2 e3 e4 : Option O) :
    b__law_refusals_right_2 [some b, e1, e2, e3, e4, some (.sh d)] = .nx [some b, e1, e2, e3, e4, none] := by
  have rf := ref_text (a := d) (b := .str c_LEFT) (p := .non) hd rfl rfl (z_rl_text h)
  have rf : Z__law_refused [.sh d, .sh (.str [108, 101, 102, 116])] = .rt (.fl [.str [116, 101, 120, 116], .non]) [.sh d, .sh (.str [108, 101, 102, 116])] := rf
  have ne : neD (.lst [.str [116, 101, 120, 116], .non]) (.lst [.str [116, 101, 120, 116], .non]) = some (.bl false) := rfl
  simp only [b__law_refusals_right_2, runF, gdO, finR, endF, allO, sSeq, sSet, setR, sOf, leak, mNextS, andThen, mVar, mC, slot, peek, peeks, nrm, O.pk, O.frz, mIf, mTB, mTru, mAnd, mOr, mNot, mOp1, mOp2, mOl1, mOl2, mTup, mLst, mLks, mDct, mDvs, mBi, mBl, mRs, mSm0, mSm1, mSl, mSlL, mPt, mIt, mItZ, zipR, mCall, asArgs, asArg, back, ofRes, mergeO, ofO, ofOS, sIf, sRet, sRetN, sPass, sExp, sAug, sUnp, sPar, sAsg2, sSto, sBrk, sCnt, sFor, sDrop, sMatch, mtL, mOs, setAll, sPut, mItK, mMut0, mMut1, wipeE, unwipe, lcEnd, mLc, mYes, mItS, mItR, mChain, mStar, mLstD, sSlSto, mCallV, mGet2, zipS, mBad, sBad, mNotV, mAndV, mOrV, Tg.put, putAll, List.map_cons, List.map_nil, List.replicate, List.cons_append, List.nil_append, List.getElem?_cons_zero, List.getElem?_cons_succ, Option.bind_some, List.set_cons_zero, List.set_cons_succ, List.take_succ_cons, List.take_zero, List.headD_cons, List.headD_nil, List.tail_cons, List.tail_nil, Option.map_some, Option.map_none, if_true, if_false, Bool.false_eq_true, ite_true, ite_false, Bool.not_true, Bool.not_false, Bool.true_and, Bool.false_and, List.contains, List.elem, List.append_nil, List.length_cons, List.length_nil, Nat.zero_add, Nat.reduceAdd, Nat.reduceLeDiff, lim, Nat.reduceBEq, beq_self_eq_true, Bool.and_self, rf, ne]
end F
end

section
set_option linter.all false
set_option autoImplicit false
set_option maxRecDepth 100000
set_option maxHeartbeats 1000000
/-! k23: the refusals, whole -/
namespace F
theorem for_same {t : Tg} {body : MS} {e : Env} : ∀ {ds : List F.D}, (∀ d ∈ ds, ∃ e1, t.put d e = some e1 ∧ body e1 = .nx e) → forL t body ds e = .nx e
  | [], _ => rfl
  | d :: ds, h => by
    obtain ⟨e1, h1, h2⟩ := h d (List.mem_cons_self ..)
    rw [for_cons h1 h2]
    exact for_same fun d hd => h d (List.mem_cons_of_mem _ hd)
abbrev signs8 : List F.D := [.str [97], .str [88], .str [48], .str [32], .str [67], .str [108], .str [62], .str [10]]
abbrev words7 : List F.D := [.str [97, 117, 116, 111], .str [], .non, .bl true, .int 1, .lst [.str [108, 101, 102, 116]], .str [82, 105, 103, 104, 116]]
theorem signs_ok : ∀ d ∈ signs8, ∃ s, d = .str [s] ∧ s ∉ c_CLASSES := by
  intro d hd
  simp only [List.mem_cons, List.not_mem_nil, or_false] at hd
  rcases hd with rfl | rfl | rfl | rfl | rfl | rfl | rfl | rfl <;> exact ⟨_, rfl, by decide⟩
theorem rz1 : reprZ [.str [97, 117, 116, 111]] = some (.str [39, 97, 117, 116, 111, 39]) := by kernel_rfl
theorem rz2 : reprZ [.lst [.str [108, 101, 102, 116]]] = some (.str [91, 39, 108, 101, 102, 116, 39, 93]) := by kernel_rfl
theorem rz3 : reprZ [.str [82, 105, 103, 104, 116]] = some (.str [39, 82, 105, 103, 104, 116, 39]) := by kernel_rfl
theorem rz4 : reprZ [.str []] = some (.str [39, 39]) := by kernel_rfl
theorem words_ok : ∀ w ∈ words7, (O.sh w).exs g9 = true ∧ (∃ t, reprZ [w] = some (.str t)) ∧ Z_need_direction [.sh w, .sh (.tup [.str c_LEFT, .str c_RIGHT])] = .ex 1 w [.sh w, .sh (.tup [.str c_LEFT, .str c_RIGHT])] := by
  intro d hd
  simp only [List.mem_cons, List.not_mem_nil, or_false] at hd
  rcases hd with rfl | rfl | rfl | rfl | rfl | rfl | rfl
  · exact ⟨rfl, ⟨_, rz1⟩, rfl⟩
  · exact ⟨rfl, ⟨_, rz4⟩, rfl⟩
  · exact ⟨rfl, ⟨_, rfl⟩, rfl⟩
  · exact ⟨rfl, ⟨_, rfl⟩, rfl⟩
  · exact ⟨rfl, ⟨_, rfl⟩, rfl⟩
  · exact ⟨rfl, ⟨_, rz2⟩, rfl⟩
  · exact ⟨rfl, ⟨_, rz3⟩, rfl⟩
theorem rep_L (k : Nat) : OkC (List.replicate k 76) := fun c hc => by
  rw [List.eq_of_mem_replicate hc]
  decide
theorem seq_nx {a b : MS} {e e1 : Env} (h : a e = .nx e1) : sSeq a b e = b e1 := by simp only [sSeq, h]
theorem drop_nx {a : MS} {is : List Nat} {e e1 : Env} (h : a e = .nx e1) : sDrop a is e = .nx (wipeE e1 is) := by simp only [sDrop, h]
theorem call_400 (rF : Fn) (f2 : F.D → F.D → Option F.D) (a1 m1 r : Int) (x Y2 : List Nat) (rp2 : f2 (.str [76]) (.int 400) = some (.str Y2)) (zo : rF [.sh (.str Y2), .sh (.str [108, 101, 102, 116])] = .rt (.sh .non) [.sh (.str Y2), .sh (.str [108, 101, 102, 116])]) :
    (mCall rF [] [] [(mOp2 f2 (mC (.str [76])) (mC (.int 400))), (mC (.str [108, 101, 102, 116]))]) [some (bg a1 m1), some (.sh (.str x)), some (.sh (.int r)), none, none, none] = .ok (.d .non) [some (bg a1 m1), some (.sh (.str x)), some (.sh (.int r)), none, none, none] := by
  simp only [runF, gdO, finR, endF, allO, sSeq, sSet, setR, sOf, leak, mNextS, andThen, mVar, mC, slot, peek, peeks, nrm, O.pk, O.frz, mIf, mTB, mTru, mAnd, mOr, mNot, mOp1, mOp2, mOl1, mOl2, mTup, mLst, mLks, mDct, mDvs, mBi, mBl, mRs, mSm0, mSm1, mSl, mSlL, mPt, mIt, mItZ, zipR, mCall, asArgs, asArg, back, ofRes, mergeO, ofO, ofOS, sIf, sRet, sRetN, sPass, sExp, sAug, sUnp, sPar, sAsg2, sSto, sBrk, sCnt, sFor, sDrop, sMatch, mtL, mOs, setAll, sPut, mItK, mMut0, mMut1, wipeE, unwipe, lcEnd, mLc, mYes, mItS, mItR, mChain, mStar, mLstD, sSlSto, mCallV, mGet2, zipS, mBad, sBad, mNotV, mAndV, mOrV, Tg.put, putAll, List.map_cons, List.map_nil, List.replicate, List.cons_append, List.nil_append, List.getElem?_cons_zero, List.getElem?_cons_succ, Option.bind_some, List.set_cons_zero, List.set_cons_succ, List.take_succ_cons, List.take_zero, List.headD_cons, List.headD_nil, List.tail_cons, List.tail_nil, Option.map_some, Option.map_none, if_true, if_false, Bool.false_eq_true, ite_true, ite_false, Bool.not_true, Bool.not_false, Bool.true_and, Bool.false_and, List.contains, List.elem, List.append_nil, List.length_cons, List.length_nil, Nat.zero_add, Nat.reduceAdd, Nat.reduceLeDiff, lim, Nat.reduceBEq, beq_self_eq_true, Bool.and_self, rp2, zo]
theorem ret_is (mm : M F.R) (iS : F.D → F.D → Option F.D) (e : Env) (h : mm e = .ok (.d .non) e) (nn : iS .non .non = some (.bl true)) : (sRet (mOp2 iS mm (mC .non))) e = .rt (.sh (.bl true)) e := by
  simp only [runF, gdO, finR, endF, allO, sSeq, sSet, setR, sOf, leak, mNextS, andThen, mVar, mC, slot, peek, peeks, nrm, O.pk, O.frz, mIf, mTB, mTru, mAnd, mOr, mNot, mOp1, mOp2, mOl1, mOl2, mTup, mLst, mLks, mDct, mDvs, mBi, mBl, mRs, mSm0, mSm1, mSl, mSlL, mPt, mIt, mItZ, zipR, mCall, asArgs, asArg, back, ofRes, mergeO, ofO, ofOS, sIf, sRet, sRetN, sPass, sExp, sAug, sUnp, sPar, sAsg2, sSto, sBrk, sCnt, sFor, sDrop, sMatch, mtL, mOs, setAll, sPut, mItK, mMut0, mMut1, wipeE, unwipe, lcEnd, mLc, mYes, mItS, mItR, mChain, mStar, mLstD, sSlSto, mCallV, mGet2, zipS, mBad, sBad, mNotV, mAndV, mOrV, Tg.put, putAll, List.map_cons, List.map_nil, List.replicate, List.cons_append, List.nil_append, List.getElem?_cons_zero, List.getElem?_cons_succ, Option.bind_some, List.set_cons_zero, List.set_cons_succ, List.take_succ_cons, List.take_zero, List.headD_cons, List.headD_nil, List.tail_cons, List.tail_nil, Option.map_some, Option.map_none, if_true, if_false, Bool.false_eq_true, ite_true, ite_false, Bool.not_true, Bool.not_false, Bool.true_and, Bool.false_and, List.contains, List.elem, List.append_nil, List.length_cons, List.length_nil, Nat.zero_add, Nat.reduceAdd, Nat.reduceLeDiff, lim, Nat.reduceBEq, beq_self_eq_true, Bool.and_self, h, nn]
theorem z_refs {x : List Nat} (hx : OkC x) (hn : x.length ≤ 30) (a m : Int) : ∃ a' m', Z__law_refusals_right [bg a m, .sh (.str x)] = .rt (.sh (.bl true)) [bg a' m', .sh (.str x)] := by
  have ln := len_str x
  have ad := add_int (x.length : Nat) 1
  obtain ⟨a1, m1, r, hz, r0, r1⟩ := z_take a m ((x.length : Nat) + 1) (by omega) (by omega)
  refine ⟨a1, m1, ?_⟩
  have l0 : forL (.nm 3) b__law_refusals_right_0 signs8 [some (bg a1 m1), some (.sh (.str x)), some (.sh (.int r)), none, none, none] = .nx [some (bg a1 m1), some (.sh (.str x)), some (.sh (.int r)), none, none, none] := for_same fun d hd => by
    obtain ⟨s, rfl, hs⟩ := signs_ok d hd
    exact ⟨_, rfl, sign_turn hx hn r0 r1 hs (bg a1 m1) none none⟩
  have l1 : forL (.nm 4) b__law_refusals_right_1 words7 [some (bg a1 m1), some (.sh (.str x)), some (.sh (.int r)), none, none, none] = .nx [some (bg a1 m1), some (.sh (.str x)), some (.sh (.int r)), none, none, none] := for_same fun d hd => by
    obtain ⟨h1, ⟨t, h2⟩, h3⟩ := words_ok d hd
    exact ⟨_, rfl, word_turn hx hn h1 h2 h3 (bg a1 m1) _ _ _⟩
  have l2 : forL (.nm 5) b__law_refusals_right_2 [.non, .int 0, .lst (x.map chD), .str (List.replicate 401 76), .tup [.str [76]]] [some (bg a1 m1), some (.sh (.str x)), some (.sh (.int r)), none, none, none] = .nx [some (bg a1 m1), some (.sh (.str x)), some (.sh (.int r)), none, none, none] := for_same fun d hd => by
    refine ⟨_, rfl, thing_turn (d := d) ?_ ?_ (bg a1 m1) _ _ _ _⟩
    · simp only [List.mem_cons, List.not_mem_nil, or_false] at hd
      rcases hd with rfl | rfl | rfl | rfl | rfl
      · rfl
      · rfl
      · exact exs_ch x
      · rfl
      · rfl
    · simp only [List.mem_cons, List.not_mem_nil, or_false] at hd
      rcases hd with rfl | rfl | rfl | rfl | rfl
      · exact z_need_no rfl
      · exact z_need_no rfl
      · exact z_need_no rfl
      · exact z_need_long (by rw [List.length_replicate]; decide)
      · exact z_need_no rfl
  have ls := listS_x x
  have rp1 : repS (.str [76]) (.int 401) = some (.str (List.replicate 401 76)) := by
    have h := rep_ok 76 401 (by decide) (by decide)
    rw [show ((401 : Int)).toNat = 401 from rfl] at h
    exact h
  have rp2 : repS (.str [76]) (.int 400) = some (.str (List.replicate 400 76)) := by
    have h := rep_ok 76 400 (by decide) (by decide)
    rw [show ((400 : Int)).toNat = 400 from rfl] at h
    exact h
  have zo := ref_ok (z_rl (rep_L 400) false (by rw [List.length_replicate]; decide))
  have zo : Z__law_refused [.sh (.str (List.replicate 400 76)), .sh (.str [108, 101, 102, 116])] = .rt (.sh .non) [.sh (.str (List.replicate 400 76)), .sh (.str [108, 101, 102, 116])] := zo
  have nn : isD .non .non = some (.bl true) := rfl
  have i1 := itL_x signs8
  have i2 := itL_x words7
  have i3 := itL_x [.non, .int 0, .lst (x.map chD), .str (List.replicate 401 76), .tup [.str [76]]]
  generalize List.replicate 401 76 = Y1 at *
  generalize List.replicate 400 76 = Y2 at *
  generalize x.map chD = XL at *
  generalize ((x.length : Nat) : Int) + 1 = L1 at *
  generalize ((x.length : Nat) : Int) = L at *
  have p0 : (sSet 2 (mCall Z__law_take [.bo, .lk] [] [(mVar 0), (mOp2 addD (mBi lenD [(mVar 1)]) (mC (.int 1)))])) [some (bg a m), some (.sh (.str x)), none, none, none, none] = .nx [some (bg a1 m1), some (.sh (.str x)), some (.sh (.int r)), none, none, none] := by
    generalize lenD = f1 at *
    generalize addD = f2 at *
    simp only [runF, gdO, finR, endF, allO, sSeq, sSet, setR, sOf, leak, mNextS, andThen, mVar, mC, slot, peek, peeks, nrm, O.pk, O.frz, mIf, mTB, mTru, mAnd, mOr, mNot, mOp1, mOp2, mOl1, mOl2, mTup, mLst, mLks, mDct, mDvs, mBi, mBl, mRs, mSm0, mSm1, mSl, mSlL, mPt, mIt, mItZ, zipR, mCall, asArgs, asArg, back, ofRes, mergeO, ofO, ofOS, sIf, sRet, sRetN, sPass, sExp, sAug, sUnp, sPar, sAsg2, sSto, sBrk, sCnt, sFor, sDrop, sMatch, mtL, mOs, setAll, sPut, mItK, mMut0, mMut1, wipeE, unwipe, lcEnd, mLc, mYes, mItS, mItR, mChain, mStar, mLstD, sSlSto, mCallV, mGet2, zipS, mBad, sBad, mNotV, mAndV, mOrV, Tg.put, putAll, List.map_cons, List.map_nil, List.replicate, List.cons_append, List.nil_append, List.getElem?_cons_zero, List.getElem?_cons_succ, Option.bind_some, List.set_cons_zero, List.set_cons_succ, List.take_succ_cons, List.take_zero, List.headD_cons, List.headD_nil, List.tail_cons, List.tail_nil, Option.map_some, Option.map_none, if_true, if_false, Bool.false_eq_true, ite_true, ite_false, Bool.not_true, Bool.not_false, Bool.true_and, Bool.false_and, List.contains, List.elem, List.append_nil, List.length_cons, List.length_nil, Nat.zero_add, Nat.reduceAdd, Nat.reduceLeDiff, lim, Nat.reduceBEq, beq_self_eq_true, Bool.and_self, ln, ad, hz]
  have p1 : (sDrop (sFor (.nm 3) (mIt itL (mLst [(mC (.str [97])), (mC (.str [88])), (mC (.str [48])), (mC (.str [32])), (mC (.str [67])), (mC (.str [108])), (mC (.str [62])), (mC (.str [10]))])) b__law_refusals_right_0) [3]) [some (bg a1 m1), some (.sh (.str x)), some (.sh (.int r)), none, none, none] = .nx [some (bg a1 m1), some (.sh (.str x)), some (.sh (.int r)), none, none, none] := by
    generalize itL = f1 at *
    simp only [runF, gdO, finR, endF, allO, sSeq, sSet, setR, sOf, leak, mNextS, andThen, mVar, mC, slot, peek, peeks, nrm, O.pk, O.frz, mIf, mTB, mTru, mAnd, mOr, mNot, mOp1, mOp2, mOl1, mOl2, mTup, mLst, mLks, mDct, mDvs, mBi, mBl, mRs, mSm0, mSm1, mSl, mSlL, mPt, mIt, mItZ, zipR, mCall, asArgs, asArg, back, ofRes, mergeO, ofO, ofOS, sIf, sRet, sRetN, sPass, sExp, sAug, sUnp, sPar, sAsg2, sSto, sBrk, sCnt, sFor, sDrop, sMatch, mtL, mOs, setAll, sPut, mItK, mMut0, mMut1, wipeE, unwipe, lcEnd, mLc, mYes, mItS, mItR, mChain, mStar, mLstD, sSlSto, mCallV, mGet2, zipS, mBad, sBad, mNotV, mAndV, mOrV, Tg.put, putAll, List.map_cons, List.map_nil, List.replicate, List.cons_append, List.nil_append, List.getElem?_cons_zero, List.getElem?_cons_succ, Option.bind_some, List.set_cons_zero, List.set_cons_succ, List.take_succ_cons, List.take_zero, List.headD_cons, List.headD_nil, List.tail_cons, List.tail_nil, Option.map_some, Option.map_none, if_true, if_false, Bool.false_eq_true, ite_true, ite_false, Bool.not_true, Bool.not_false, Bool.true_and, Bool.false_and, List.contains, List.elem, List.append_nil, List.length_cons, List.length_nil, Nat.zero_add, Nat.reduceAdd, Nat.reduceLeDiff, lim, Nat.reduceBEq, beq_self_eq_true, Bool.and_self, i1, l0]
  have p2 : (sDrop (sFor (.nm 4) (mIt itL (mLst [(mC (.str [97, 117, 116, 111])), (mC (.str [])), (mC .non), (mC (.bl true)), (mC (.int 1)), (mLst [(mC (.str [108, 101, 102, 116]))]), (mC (.str [82, 105, 103, 104, 116]))])) b__law_refusals_right_1) [4]) [some (bg a1 m1), some (.sh (.str x)), some (.sh (.int r)), none, none, none] = .nx [some (bg a1 m1), some (.sh (.str x)), some (.sh (.int r)), none, none, none] := by
    generalize itL = f1 at *
    simp only [runF, gdO, finR, endF, allO, sSeq, sSet, setR, sOf, leak, mNextS, andThen, mVar, mC, slot, peek, peeks, nrm, O.pk, O.frz, mIf, mTB, mTru, mAnd, mOr, mNot, mOp1, mOp2, mOl1, mOl2, mTup, mLst, mLks, mDct, mDvs, mBi, mBl, mRs, mSm0, mSm1, mSl, mSlL, mPt, mIt, mItZ, zipR, mCall, asArgs, asArg, back, ofRes, mergeO, ofO, ofOS, sIf, sRet, sRetN, sPass, sExp, sAug, sUnp, sPar, sAsg2, sSto, sBrk, sCnt, sFor, sDrop, sMatch, mtL, mOs, setAll, sPut, mItK, mMut0, mMut1, wipeE, unwipe, lcEnd, mLc, mYes, mItS, mItR, mChain, mStar, mLstD, sSlSto, mCallV, mGet2, zipS, mBad, sBad, mNotV, mAndV, mOrV, Tg.put, putAll, List.map_cons, List.map_nil, List.replicate, List.cons_append, List.nil_append, List.getElem?_cons_zero, List.getElem?_cons_succ, Option.bind_some, List.set_cons_zero, List.set_cons_succ, List.take_succ_cons, List.take_zero, List.headD_cons, List.headD_nil, List.tail_cons, List.tail_nil, Option.map_some, Option.map_none, if_true, if_false, Bool.false_eq_true, ite_true, ite_false, Bool.not_true, Bool.not_false, Bool.true_and, Bool.false_and, List.contains, List.elem, List.append_nil, List.length_cons, List.length_nil, Nat.zero_add, Nat.reduceAdd, Nat.reduceLeDiff, lim, Nat.reduceBEq, beq_self_eq_true, Bool.and_self, i2, l1]
  have p3 : (sDrop (sFor (.nm 5) (mIt itL (mLst [(mC .non), (mC (.int 0)), (mBl listSD [(mVar 1)]), (mOp2 repS (mC (.str [76])) (mC (.int 401))), (mTup [(mC (.str [76]))])])) b__law_refusals_right_2) [5]) [some (bg a1 m1), some (.sh (.str x)), some (.sh (.int r)), none, none, none] = .nx [some (bg a1 m1), some (.sh (.str x)), some (.sh (.int r)), none, none, none] := by
    generalize itL = f1 at *
    generalize repS = f2 at *
    generalize listSD = f3 at *
    simp only [runF, gdO, finR, endF, allO, sSeq, sSet, setR, sOf, leak, mNextS, andThen, mVar, mC, slot, peek, peeks, nrm, O.pk, O.frz, mIf, mTB, mTru, mAnd, mOr, mNot, mOp1, mOp2, mOl1, mOl2, mTup, mLst, mLks, mDct, mDvs, mBi, mBl, mRs, mSm0, mSm1, mSl, mSlL, mPt, mIt, mItZ, zipR, mCall, asArgs, asArg, back, ofRes, mergeO, ofO, ofOS, sIf, sRet, sRetN, sPass, sExp, sAug, sUnp, sPar, sAsg2, sSto, sBrk, sCnt, sFor, sDrop, sMatch, mtL, mOs, setAll, sPut, mItK, mMut0, mMut1, wipeE, unwipe, lcEnd, mLc, mYes, mItS, mItR, mChain, mStar, mLstD, sSlSto, mCallV, mGet2, zipS, mBad, sBad, mNotV, mAndV, mOrV, Tg.put, putAll, List.map_cons, List.map_nil, List.replicate, List.cons_append, List.nil_append, List.getElem?_cons_zero, List.getElem?_cons_succ, Option.bind_some, List.set_cons_zero, List.set_cons_succ, List.take_succ_cons, List.take_zero, List.headD_cons, List.headD_nil, List.tail_cons, List.tail_nil, Option.map_some, Option.map_none, if_true, if_false, Bool.false_eq_true, ite_true, ite_false, Bool.not_true, Bool.not_false, Bool.true_and, Bool.false_and, List.contains, List.elem, List.append_nil, List.length_cons, List.length_nil, Nat.zero_add, Nat.reduceAdd, Nat.reduceLeDiff, lim, Nat.reduceBEq, beq_self_eq_true, Bool.and_self, i3, ls, rp1, l2]
  have p4 : (sRet (mOp2 isD (mCall Z__law_refused [] [] [(mOp2 repS (mC (.str [76])) (mC (.int 400))), (mC (.str [108, 101, 102, 116]))]) (mC .non))) [some (bg a1 m1), some (.sh (.str x)), some (.sh (.int r)), none, none, none] = .rt (.sh (.bl true)) [some (bg a1 m1), some (.sh (.str x)), some (.sh (.int r)), none, none, none] := by
    exact ret_is _ isD _ (call_400 Z__law_refused repS a1 m1 r x Y2 rp2 zo) nn
  have R : m__law_refusals_right [some (bg a m), some (.sh (.str x)), none, none, none, none] = .rt (.sh (.bl true)) [some (bg a1 m1), some (.sh (.str x)), some (.sh (.int r)), none, none, none] := by
    unfold m__law_refusals_right
    exact (seq_nx p0).trans ((seq_nx p1).trans ((seq_nx p2).trans ((seq_nx p3).trans p4)))
  unfold Z__law_refusals_right
  generalize m__law_refusals_right = mm at *
  simp only [runF, gdO, finR, endF, allO, sSeq, sSet, setR, sOf, leak, mNextS, andThen, mVar, mC, slot, peek, peeks, nrm, O.pk, O.frz, mIf, mTB, mTru, mAnd, mOr, mNot, mOp1, mOp2, mOl1, mOl2, mTup, mLst, mLks, mDct, mDvs, mBi, mBl, mRs, mSm0, mSm1, mSl, mSlL, mPt, mIt, mItZ, zipR, mCall, asArgs, asArg, back, ofRes, mergeO, ofO, ofOS, sIf, sRet, sRetN, sPass, sExp, sAug, sUnp, sPar, sAsg2, sSto, sBrk, sCnt, sFor, sDrop, sMatch, mtL, mOs, setAll, sPut, mItK, mMut0, mMut1, wipeE, unwipe, lcEnd, mLc, mYes, mItS, mItR, mChain, mStar, mLstD, sSlSto, mCallV, mGet2, zipS, mBad, sBad, mNotV, mAndV, mOrV, Tg.put, putAll, List.map_cons, List.map_nil, List.replicate, List.cons_append, List.nil_append, List.getElem?_cons_zero, List.getElem?_cons_succ, Option.bind_some, List.set_cons_zero, List.set_cons_succ, List.take_succ_cons, List.take_zero, List.headD_cons, List.headD_nil, List.tail_cons, List.tail_nil, Option.map_some, Option.map_none, if_true, if_false, Bool.false_eq_true, ite_true, ite_false, Bool.not_true, Bool.not_false, Bool.true_and, Bool.false_and, List.contains, List.elem, List.append_nil, List.length_cons, List.length_nil, Nat.zero_add, Nat.reduceAdd, Nat.reduceLeDiff, lim, Nat.reduceBEq, beq_self_eq_true, Bool.and_self, R]
end F
end

section
set_option linter.all false
set_option autoImplicit false
set_option maxRecDepth 100000
set_option maxHeartbeats 1000000
/-! k23: the law -/
namespace F
theorem lev_pl (x : List Nat) (r : Bool) (i : Nat) : (lev x r i).pl = true ∧ (lev x r i).dp ≤ 1 := by
  unfold lev
  split
  · exact ⟨rfl, Nat.zero_le _⟩
  · split
    · exact ⟨rfl, Nat.zero_le _⟩
    · cases told x r i with
      | none => exact ⟨rfl, Nat.zero_le _⟩
      | some v => exact ⟨rfl, Nat.zero_le _⟩
theorem ne_lev (x : List Nat) (r : Bool) (n : Nat) : neD (.tup (tab n (lev x r))) (.tup (tab n (lev x r))) = some (.bl false) := ne_refl (by
  show pls _ = true
  exact pls_all fun d hd => by
    obtain ⟨i, _, rfl⟩ := List.mem_map.mp hd
    exact (lev_pl x r i).1) (by
  have : dps (tab n (lev x r)) ≤ 1 := dps_all fun d hd => by
    obtain ⟨i, _, rfl⟩ := List.mem_map.mp hd
    exact (lev_pl x r i).2
  show dps (tab n (lev x r)) + 1 ≤ 50
  omega)
abbrev dirs2 : List F.D := [.str [108, 101, 102, 116], .str [114, 105, 103, 104, 116]]
theorem dirs_ok : ∀ d ∈ dirs2, ∃ r, d = .str (dirS r) := by
  intro d hd
  simp only [List.mem_cons, List.not_mem_nil, or_false] at hd
  rcases hd with rfl | rfl
  · exact ⟨false, rfl⟩
  · exact ⟨true, rfl⟩
theorem same_turn {x : List Nat} (hx : OkC x) (hn : x.length ≤ 400) (r : Bool) (e0 e1 e2 e3 e5 e6 e8 e9 e10 e11 e12 : Option O) : b_law_0 [e0, e1, e2, e3, some (.sh (.str x)), e5, e6, some (.sh (.str (dirS r))), e8, e9, e10, e11, e12] = .nx [e0, e1, e2, e3, some (.sh (.str x)), e5, e6, none, e8, e9, e10, e11, e12] := by
  have z1 := z_rl hx r hn
  have z2 := z_lr hx r (by omega)
  have e : eqD (.str (dirS r)) (.str [114, 105, 103, 104, 116]) = some (.bl r) := by cases r <;> rfl
  have tl := tup_l (tab x.length (lev x r)) (by rw [tab_len]; omega)
  have ne := ne_lev x r x.length
  generalize tab x.length (lev x r) = T at *
  generalize dirS r = dd at *
  simp only [b_law_0, runF, gdO, finR, endF, allO, sSeq, sSet, setR, sOf, leak, mNextS, andThen, mVar, mC, slot, peek, peeks, nrm, O.pk, O.frz, mIf, mTB, mTru, mAnd, mOr, mNot, mOp1, mOp2, mOl1, mOl2, mTup, mLst, mLks, mDct, mDvs, mBi, mBl, mRs, mSm0, mSm1, mSl, mSlL, mPt, mIt, mItZ, zipR, mCall, asArgs, asArg, back, ofRes, mergeO, ofO, ofOS, sIf, sRet, sRetN, sPass, sExp, sAug, sUnp, sPar, sAsg2, sSto, sBrk, sCnt, sFor, sDrop, sMatch, mtL, mOs, setAll, sPut, mItK, mMut0, mMut1, wipeE, unwipe, lcEnd, mLc, mYes, mItS, mItR, mChain, mStar, mLstD, sSlSto, mCallV, mGet2, zipS, mBad, sBad, mNotV, mAndV, mOrV, Tg.put, putAll, List.map_cons, List.map_nil, List.replicate, List.cons_append, List.nil_append, List.getElem?_cons_zero, List.getElem?_cons_succ, Option.bind_some, List.set_cons_zero, List.set_cons_succ, List.take_succ_cons, List.take_zero, List.headD_cons, List.headD_nil, List.tail_cons, List.tail_nil, Option.map_some, Option.map_none, if_true, if_false, Bool.false_eq_true, ite_true, ite_false, Bool.not_true, Bool.not_false, Bool.true_and, Bool.false_and, List.contains, List.elem, List.append_nil, List.length_cons, List.length_nil, Nat.zero_add, Nat.reduceAdd, Nat.reduceLeDiff, lim, Nat.reduceBEq, beq_self_eq_true, Bool.and_self, z1, z2, e, tl, ne]
theorem same_turn2 {x y z : List Nat} (hx : OkC (x ++ y ++ z)) (hn : (x ++ y ++ z).length ≤ 400) (r : Bool) (e0 e1 e2 e3 e4 e5 e6 e12 : Option O) : b_law_2 [e0, e1, e2, e3, e4, e5, e6, some (.sh (.str (dirS r))), some (.sh (.str x)), some (.sh (.str y)), some (.sh (.str z)), none, e12] = .nx [e0, e1, e2, e3, e4, e5, e6, none, some (.sh (.str x)), some (.sh (.str y)), some (.sh (.str z)), none, e12] := by
  have z1 := z_rl hx r hn
  have z2 := z_lr hx r (by omega)
  have e : eqD (.str (dirS r)) (.str [114, 105, 103, 104, 116]) = some (.bl r) := by cases r <;> rfl
  have tl := tup_l (tab (x ++ y ++ z).length (lev (x ++ y ++ z) r)) (by rw [tab_len]; omega)
  have ne := ne_lev (x ++ y ++ z) r (x ++ y ++ z).length
  have a1 := add_str x y (by rw [List.length_append, List.length_append] at hn; omega)
  have a2 := add_str (x ++ y) z (by rw [List.length_append] at hn; omega)
  generalize tab (x ++ y ++ z).length (lev (x ++ y ++ z) r) = T at *
  generalize dirS r = dd at *
  generalize x ++ y ++ z = w at *
  generalize x ++ y = v at *
  simp only [b_law_2, runF, gdO, finR, endF, allO, sSeq, sSet, setR, sOf, leak, mNextS, andThen, mVar, mC, slot, peek, peeks, nrm, O.pk, O.frz, mIf, mTB, mTru, mAnd, mOr, mNot, mOp1, mOp2, mOl1, mOl2, mTup, mLst, mLks, mDct, mDvs, mBi, mBl, mRs, mSm0, mSm1, mSl, mSlL, mPt, mIt, mItZ, zipR, mCall, asArgs, asArg, back, ofRes, mergeO, ofO, ofOS, sIf, sRet, sRetN, sPass, sExp, sAug, sUnp, sPar, sAsg2, sSto, sBrk, sCnt, sFor, sDrop, sMatch, mtL, mOs, setAll, sPut, mItK, mMut0, mMut1, wipeE, unwipe, lcEnd, mLc, mYes, mItS, mItR, mChain, mStar, mLstD, sSlSto, mCallV, mGet2, zipS, mBad, sBad, mNotV, mAndV, mOrV, Tg.put, putAll, List.map_cons, List.map_nil, List.replicate, List.cons_append, List.nil_append, List.getElem?_cons_zero, List.getElem?_cons_succ, Option.bind_some, List.set_cons_zero, List.set_cons_succ, List.take_succ_cons, List.take_zero, List.headD_cons, List.headD_nil, List.tail_cons, List.tail_nil, Option.map_some, Option.map_none, if_true, if_false, Bool.false_eq_true, ite_true, ite_false, Bool.not_true, Bool.not_false, Bool.true_and, Bool.false_and, List.contains, List.elem, List.append_nil, List.length_cons, List.length_nil, Nat.zero_add, Nat.reduceAdd, Nat.reduceLeDiff, lim, Nat.reduceBEq, beq_self_eq_true, Bool.and_self, a1, a2, z1, z2, e, tl, ne]
theorem loop2 {x y z : List Nat} (hx : OkC (x ++ y ++ z)) (hn : (x ++ y ++ z).length ≤ 400) (e0 e1 e2 e3 e4 e5 e6 e12 : Option O) : forL (.nm 7) b_law_2 dirs2 [e0, e1, e2, e3, e4, e5, e6, none, some (.sh (.str x)), some (.sh (.str y)), some (.sh (.str z)), none, e12] = .nx [e0, e1, e2, e3, e4, e5, e6, none, some (.sh (.str x)), some (.sh (.str y)), some (.sh (.str z)), none, e12] := for_same fun d hd => by
  obtain ⟨r, rfl⟩ := dirs_ok d hd
  exact ⟨_, rfl, same_turn2 hx hn r e0 e1 e2 e3 e4 e5 e6 e12⟩
theorem other_turn {x y : List Nat} {c : Nat} (hx : OkC (x ++ y ++ [c])) (hn : (x ++ y ++ [c]).length ≤ 400) (e0 e1 e2 e3 e4 e5 e6 e12 : Option O) : b_law_3 [e0, e1, e2, e3, e4, e5, e6, none, some (.sh (.str x)), some (.sh (.str y)), some (.sh (.str [c])), none, e12] = .nx [e0, e1, e2, e3, e4, e5, e6, none, some (.sh (.str x)), some (.sh (.str y)), none, none, e12] := by
  have l := loop2 hx hn e0 e1 e2 e3 e4 e5 e6 e12
  have it : itT (.tup dirs2) = some dirs2 := rfl
  generalize ([c] : List Nat) = z at *
  simp only [b_law_3, runF, gdO, finR, endF, allO, sSeq, sSet, setR, sOf, leak, mNextS, andThen, mVar, mC, slot, peek, peeks, nrm, O.pk, O.frz, mIf, mTB, mTru, mAnd, mOr, mNot, mOp1, mOp2, mOl1, mOl2, mTup, mLst, mLks, mDct, mDvs, mBi, mBl, mRs, mSm0, mSm1, mSl, mSlL, mPt, mIt, mItZ, zipR, mCall, asArgs, asArg, back, ofRes, mergeO, ofO, ofOS, sIf, sRet, sRetN, sPass, sExp, sAug, sUnp, sPar, sAsg2, sSto, sBrk, sCnt, sFor, sDrop, sMatch, mtL, mOs, setAll, sPut, mItK, mMut0, mMut1, wipeE, unwipe, lcEnd, mLc, mYes, mItS, mItR, mChain, mStar, mLstD, sSlSto, mCallV, mGet2, zipS, mBad, sBad, mNotV, mAndV, mOrV, Tg.put, putAll, List.map_cons, List.map_nil, List.replicate, List.cons_append, List.nil_append, List.getElem?_cons_zero, List.getElem?_cons_succ, Option.bind_some, List.set_cons_zero, List.set_cons_succ, List.take_succ_cons, List.take_zero, List.headD_cons, List.headD_nil, List.tail_cons, List.tail_nil, Option.map_some, Option.map_none, if_true, if_false, Bool.false_eq_true, ite_true, ite_false, Bool.not_true, Bool.not_false, Bool.true_and, Bool.false_and, List.contains, List.elem, List.append_nil, List.length_cons, List.length_nil, Nat.zero_add, Nat.reduceAdd, Nat.reduceLeDiff, lim, Nat.reduceBEq, beq_self_eq_true, Bool.and_self, it, l]
theorem one_turn {x : List Nat} {c : Nat} (hx : OkC x) (hc : c ∈ cl7) (hn : x.length ≤ 2) (e0 e2 e3 e4 e5 e6 e12 : Option O) : b_law_4 [e0, some (.sh (.str cl7)), e2, e3, e4, e5, e6, none, some (.sh (.str x)), some (.sh (.str [c])), none, none, e12] = .nx [e0, some (.sh (.str cl7)), e2, e3, e4, e5, e6, none, some (.sh (.str x)), none, none, none, e12] := by
  have l : forL (.nm 10) b_law_3 (cl7.map chD) [e0, some (.sh (.str cl7)), e2, e3, e4, e5, e6, none, some (.sh (.str x)), some (.sh (.str [c])), none, none, e12] = .nx [e0, some (.sh (.str cl7)), e2, e3, e4, e5, e6, none, some (.sh (.str x)), some (.sh (.str [c])), none, none, e12] := for_same fun d hd => by
    obtain ⟨c2, hc2, rfl⟩ := List.mem_map.mp hd
    refine ⟨_, rfl, other_turn (c := c2) ?_ ?_ e0 _ e2 e3 e4 e5 e6 e12⟩
    · intro q hq
      rcases List.mem_append.mp hq with hq | hq
      · rcases List.mem_append.mp hq with hq | hq
        · exact hx q hq
        · rw [List.mem_singleton.mp hq]
          exact hc
      · rw [List.mem_singleton.mp hq]
        exact hc2
    · rw [List.length_append, List.length_append]
      simp only [List.length_cons, List.length_nil]
      omega
  have i := itS_x cl7
  generalize cl7.map chD = I at *
  generalize ([c] : List Nat) = z at *
  generalize cl7 = cc at *
  simp only [b_law_4, runF, gdO, finR, endF, allO, sSeq, sSet, setR, sOf, leak, mNextS, andThen, mVar, mC, slot, peek, peeks, nrm, O.pk, O.frz, mIf, mTB, mTru, mAnd, mOr, mNot, mOp1, mOp2, mOl1, mOl2, mTup, mLst, mLks, mDct, mDvs, mBi, mBl, mRs, mSm0, mSm1, mSl, mSlL, mPt, mIt, mItZ, zipR, mCall, asArgs, asArg, back, ofRes, mergeO, ofO, ofOS, sIf, sRet, sRetN, sPass, sExp, sAug, sUnp, sPar, sAsg2, sSto, sBrk, sCnt, sFor, sDrop, sMatch, mtL, mOs, setAll, sPut, mItK, mMut0, mMut1, wipeE, unwipe, lcEnd, mLc, mYes, mItS, mItR, mChain, mStar, mLstD, sSlSto, mCallV, mGet2, zipS, mBad, sBad, mNotV, mAndV, mOrV, Tg.put, putAll, List.map_cons, List.map_nil, List.replicate, List.cons_append, List.nil_append, List.getElem?_cons_zero, List.getElem?_cons_succ, Option.bind_some, List.set_cons_zero, List.set_cons_succ, List.take_succ_cons, List.take_zero, List.headD_cons, List.headD_nil, List.tail_cons, List.tail_nil, Option.map_some, Option.map_none, if_true, if_false, Bool.false_eq_true, ite_true, ite_false, Bool.not_true, Bool.not_false, Bool.true_and, Bool.false_and, List.contains, List.elem, List.append_nil, List.length_cons, List.length_nil, Nat.zero_add, Nat.reduceAdd, Nat.reduceLeDiff, lim, Nat.reduceBEq, beq_self_eq_true, Bool.and_self, i, l]
theorem all_four {x : List Nat} (hx : OkC x) (hn : x.length ≤ 2) (e0 e2 e3 e4 e5 e6 e12 : Option O) : forL (.nm 9) b_law_4 (cl7.map chD) [e0, some (.sh (.str cl7)), e2, e3, e4, e5, e6, none, some (.sh (.str x)), none, none, none, e12] = .nx [e0, some (.sh (.str cl7)), e2, e3, e4, e5, e6, none, some (.sh (.str x)), none, none, none, e12] := for_same fun d hd => by
  obtain ⟨c2, hc2, rfl⟩ := List.mem_map.mp hd
  exact ⟨_, rfl, one_turn hx hc2 hn e0 e2 e3 e4 e5 e6 e12⟩
/-! strings drawn -/
theorem few_l (e0 e2 e4 e5 e6 e7 e8 e9 e10 e11 : Option O) : ∀ (items acc : List F.D) (a m : Int), ∃ (a' m' : Int) (few : List Nat), few.length = items.length ∧ OkC few ∧
    lcL [12] (.nm 12) mYes (mOp2 ixD (mVar 1) (mCall Z__law_take [.bo, .lk] [] [(mVar 3), (mC (.int 7))])) items acc [e0, some (.sh (.str cl7)), e2, some (bg a m), e4, e5, e6, e7, e8, e9, e10, e11, none] = .ok (acc ++ few.map chD) [e0, some (.sh (.str cl7)), e2, some (bg a' m'), e4, e5, e6, e7, e8, e9, e10, e11, none]
  | [], acc, a, m => ⟨a, m, [], rfl, (fun d h => by cases h), by rw [List.map_nil, List.append_nil]; rfl⟩
  | d :: ds, acc, a, m => by
    obtain ⟨a1, m1, r, hz, r0, r1⟩ := z_take a m 7 (by decide) (by decide)
    obtain ⟨c, hc, hx⟩ := ix_str (x := cl7) r0 r1
    obtain ⟨a', m', few, h1, h2, h3⟩ := few_l e0 e2 e4 e5 e6 e7 e8 e9 e10 e11 ds (acc ++ [chD c]) a1 m1
    refine ⟨a', m', c :: few, by simp [h1], fun q hq => ?_, ?_⟩
    · rcases List.mem_cons.mp hq with rfl | hq
      · exact hc
      · exact h2 q hq
    · have e : lcOne [12] (.nm 12) mYes (mOp2 ixD (mVar 1) (mCall Z__law_take [.bo, .lk] [] [(mVar 3), (mC (.int 7))])) d [e0, some (.sh (.str cl7)), e2, some (bg a m), e4, e5, e6, e7, e8, e9, e10, e11, none] = some (some (chD c), [e0, some (.sh (.str cl7)), e2, some (bg a1 m1), e4, e5, e6, e7, e8, e9, e10, e11, none]) := by
        have hx : ixD (.str cl7) (.int r) = some (chD c) := hx
        generalize chD c = C at *
        generalize cl7 = cc at *
        simp only [lcOne, runF, gdO, finR, endF, allO, sSeq, sSet, setR, sOf, leak, mNextS, andThen, mVar, mC, slot, peek, peeks, nrm, O.pk, O.frz, mIf, mTB, mTru, mAnd, mOr, mNot, mOp1, mOp2, mOl1, mOl2, mTup, mLst, mLks, mDct, mDvs, mBi, mBl, mRs, mSm0, mSm1, mSl, mSlL, mPt, mIt, mItZ, zipR, mCall, asArgs, asArg, back, ofRes, mergeO, ofO, ofOS, sIf, sRet, sRetN, sPass, sExp, sAug, sUnp, sPar, sAsg2, sSto, sBrk, sCnt, sFor, sDrop, sMatch, mtL, mOs, setAll, sPut, mItK, mMut0, mMut1, wipeE, unwipe, lcEnd, mLc, mYes, mItS, mItR, mChain, mStar, mLstD, sSlSto, mCallV, mGet2, zipS, mBad, sBad, mNotV, mAndV, mOrV, Tg.put, putAll, List.map_cons, List.map_nil, List.replicate, List.cons_append, List.nil_append, List.getElem?_cons_zero, List.getElem?_cons_succ, Option.bind_some, List.set_cons_zero, List.set_cons_succ, List.take_succ_cons, List.take_zero, List.headD_cons, List.headD_nil, List.tail_cons, List.tail_nil, Option.map_some, Option.map_none, if_true, if_false, Bool.false_eq_true, ite_true, ite_false, Bool.not_true, Bool.not_false, Bool.true_and, Bool.false_and, List.contains, List.elem, List.append_nil, List.length_cons, List.length_nil, Nat.zero_add, Nat.reduceAdd, Nat.reduceLeDiff, lim, Nat.reduceBEq, beq_self_eq_true, Bool.and_self, hz, hx]
      rw [lc_eq e]
      simp only [Option.toList]
      rw [h3, List.append_assoc]
      rfl
theorem text_l {few : List Nat} (hf : OkC few) (h0 : 0 < few.length) (h1 : few.length < 1000) (e0 e1 e2 e4 e5 e7 e8 e9 e10 e11 : Option O) : ∀ (items acc : List F.D) (a m : Int), ∃ (a' m' : Int) (y : List Nat), y.length = items.length ∧ OkC y ∧
    lcL [12] (.nm 12) mYes (mOp2 ixD (mVar 6) (mCall Z__law_take [.bo, .lk] [] [(mVar 3), (mBi lenD [(mVar 6)])])) items acc [e0, e1, e2, some (bg a m), e4, e5, some (.fl (few.map chD)), e7, e8, e9, e10, e11, none] = .ok (acc ++ y.map chD) [e0, e1, e2, some (bg a' m'), e4, e5, some (.fl (few.map chD)), e7, e8, e9, e10, e11, none]
  | [], acc, a, m => ⟨a, m, [], rfl, (fun d h => by cases h), by rw [List.map_nil, List.append_nil]; rfl⟩
  | d :: ds, acc, a, m => by
    obtain ⟨a1, m1, r, hz, r0, r1⟩ := z_take a m (few.length : Nat) (by omega) (by omega)
    obtain ⟨c', hc', hx⟩ := ix_lst (l := few.map chD) r0 (by rw [List.length_map]; exact r1)
    obtain ⟨c, hc, rfl⟩ := List.mem_map.mp hc'
    have ln := len_lst (few.map chD)
    rw [List.length_map] at ln
    obtain ⟨a', m', y, q1, q2, q3⟩ := text_l hf h0 h1 e0 e1 e2 e4 e5 e7 e8 e9 e10 e11 ds (acc ++ [chD c]) a1 m1
    refine ⟨a', m', c :: y, by simp [q1], fun q hq => ?_, ?_⟩
    · rcases List.mem_cons.mp hq with rfl | hq
      · exact hf _ hc
      · exact q2 q hq
    · have e : lcOne [12] (.nm 12) mYes (mOp2 ixD (mVar 6) (mCall Z__law_take [.bo, .lk] [] [(mVar 3), (mBi lenD [(mVar 6)])])) d [e0, e1, e2, some (bg a m), e4, e5, some (.fl (few.map chD)), e7, e8, e9, e10, e11, none] = some (some (chD c), [e0, e1, e2, some (bg a1 m1), e4, e5, some (.fl (few.map chD)), e7, e8, e9, e10, e11, none]) := by
        generalize few.map chD = ff at *
        generalize chD c = C at *
        generalize ((few.length : Nat) : Int) = L at *
        simp only [lcOne, runF, gdO, finR, endF, allO, sSeq, sSet, setR, sOf, leak, mNextS, andThen, mVar, mC, slot, peek, peeks, nrm, O.pk, O.frz, mIf, mTB, mTru, mAnd, mOr, mNot, mOp1, mOp2, mOl1, mOl2, mTup, mLst, mLks, mDct, mDvs, mBi, mBl, mRs, mSm0, mSm1, mSl, mSlL, mPt, mIt, mItZ, zipR, mCall, asArgs, asArg, back, ofRes, mergeO, ofO, ofOS, sIf, sRet, sRetN, sPass, sExp, sAug, sUnp, sPar, sAsg2, sSto, sBrk, sCnt, sFor, sDrop, sMatch, mtL, mOs, setAll, sPut, mItK, mMut0, mMut1, wipeE, unwipe, lcEnd, mLc, mYes, mItS, mItR, mChain, mStar, mLstD, sSlSto, mCallV, mGet2, zipS, mBad, sBad, mNotV, mAndV, mOrV, Tg.put, putAll, List.map_cons, List.map_nil, List.replicate, List.cons_append, List.nil_append, List.getElem?_cons_zero, List.getElem?_cons_succ, Option.bind_some, List.set_cons_zero, List.set_cons_succ, List.take_succ_cons, List.take_zero, List.headD_cons, List.headD_nil, List.tail_cons, List.tail_nil, Option.map_some, Option.map_none, if_true, if_false, Bool.false_eq_true, ite_true, ite_false, Bool.not_true, Bool.not_false, Bool.true_and, Bool.false_and, List.contains, List.elem, List.append_nil, List.length_cons, List.length_nil, Nat.zero_add, Nat.reduceAdd, Nat.reduceLeDiff, lim, Nat.reduceBEq, beq_self_eq_true, Bool.and_self, ln, hz, hx]
      rw [lc_eq e]
      simp only [Option.toList]
      rw [q3, List.append_assoc]
      rfl
end F
end

section
set_option linter.all false
set_option autoImplicit false
set_option maxRecDepth 100000
set_option maxHeartbeats 1000000
/-! k23: the law, whole -/
namespace F
theorem mlc_gen {own : List Nat} {t : Tg} {it : M (List F.D)} {c : M Bool} {v : M F.R} {e e1 e2 : Env} {ds rs : List F.D} (hi : it e = .ok ds e1) (hl : ds.length ≤ 16777216) (h : lcL own t c v ds [] (wipeE e1 own) = .ok rs e2) : mLc own t it c v e = .ok (.ow (.fl rs)) (unwipe e1 e2 own) := by
  have hl : ds.length ≤ F.lim := hl
  simp only [mLc, hi, andThen, if_pos hl, h, lcEnd]
theorem it_rng (f : F.D → Option (List F.D)) {mm : M F.R} {e e1 : Env} {d : F.D} {ds : List F.D} (h : mm e = .ok (.d d) e1) (hf : f d = some ds) : mIt f mm e = .ok ds e1 := by
  simp only [mIt, h, andThen, leak, hf, ofO]
theorem rngF_length (lo : Int) : ∀ n, (rngF lo n).length = n
  | 0 => rfl
  | n + 1 => by
    show (rngF (lo + 1) n).length + 1 = n + 1
    rw [rngF_length (lo + 1) n]
theorem rep_ch (t : Nat) : List.replicate t (F.D.str [68]) = (List.replicate t 68).map chD := by rw [List.map_replicate]; rfl
theorem OkC.app {x y : List Nat} (hx : OkC x) (hy : OkC y) : OkC (x ++ y) := fun c hc => (List.mem_append.mp hc).elim (hx c) (hy c)
theorem rep_D (k : Nat) : OkC (List.replicate k 68) := fun c hc => by
  rw [List.eq_of_mem_replicate hc]
  decide
theorem few_ok (e0 e2 e4 e5 : Option O) (a m : Int) : ∃ (a' m' : Int) (few : List Nat), 0 < few.length ∧ few.length < 1000 ∧ OkC few ∧
    (sSet 6 (mOl2 catL (mLc [12] (.nm 12) (mIt itR1 (mOp2 addD (mC (.int 2)) (mCall Z__law_take [.bo, .lk] [] [(mVar 3), (mC (.int 5))]))) mYes (mOp2 ixD (mVar 1) (mCall Z__law_take [.bo, .lk] [] [(mVar 3), (mC (.int 7))]))) (mOl2 repL (mLst [(mC (.str [68]))]) (mCall Z__law_take [.bo, .lk] [] [(mVar 3), (mC (.int 2))])))) [e0, some (.sh (.str cl7)), e2, some (bg a m), e4, e5, none, none, none, none, none, none, none] =
      .nx [e0, some (.sh (.str cl7)), e2, some (bg a' m'), e4, e5, some (.fl (few.map chD)), none, none, none, none, none, none] := by
  obtain ⟨a1, m1, r, hz, r0, r1⟩ := z_take a m 5 (by decide) (by decide)
  have ad := add_int 2 r
  have ir := itR1_ok (2 + r) (by omega) (by omega)
  have ln := rngF_length 0 (2 + r).toNat
  obtain ⟨a2, m2, few, f1, f2, f3⟩ := few_l e0 e2 e4 e5 none none none none none none (rngF 0 (2 + r).toNat) [] a1 m1
  obtain ⟨a3, m3, t, hz2, t0, t1⟩ := z_take a2 m2 2 (by decide) (by decide)
  have hm : (mOp2 addD (mC (.int 2)) (mCall Z__law_take [.bo, .lk] [] [(mVar 3), (mC (.int 5))])) [e0, some (.sh (.str cl7)), e2, some (bg a m), e4, e5, none, none, none, none, none, none, none] = .ok (.d (.int (2 + r))) [e0, some (.sh (.str cl7)), e2, some (bg a1 m1), e4, e5, none, none, none, none, none, none, none] := by
    generalize cl7 = cc at *
    simp only [runF, gdO, finR, endF, allO, sSeq, sSet, setR, sOf, leak, mNextS, andThen, mVar, mC, slot, peek, peeks, nrm, O.pk, O.frz, mIf, mTB, mTru, mAnd, mOr, mNot, mOp1, mOp2, mOl1, mOl2, mTup, mLst, mLks, mDct, mDvs, mBi, mBl, mRs, mSm0, mSm1, mSl, mSlL, mPt, mIt, mItZ, zipR, mCall, asArgs, asArg, back, ofRes, mergeO, ofO, ofOS, sIf, sRet, sRetN, sPass, sExp, sAug, sUnp, sPar, sAsg2, sSto, sBrk, sCnt, sFor, sDrop, sMatch, mtL, mOs, setAll, sPut, mItK, mMut0, mMut1, wipeE, unwipe, lcEnd, mLc, mYes, mItS, mItR, mChain, mStar, mLstD, sSlSto, mCallV, mGet2, zipS, mBad, sBad, mNotV, mAndV, mOrV, Tg.put, putAll, List.map_cons, List.map_nil, List.replicate, List.cons_append, List.nil_append, List.getElem?_cons_zero, List.getElem?_cons_succ, Option.bind_some, List.set_cons_zero, List.set_cons_succ, List.take_succ_cons, List.take_zero, List.headD_cons, List.headD_nil, List.tail_cons, List.tail_nil, Option.map_some, Option.map_none, if_true, if_false, Bool.false_eq_true, ite_true, ite_false, Bool.not_true, Bool.not_false, Bool.true_and, Bool.false_and, List.contains, List.elem, List.append_nil, List.length_cons, List.length_nil, Nat.zero_add, Nat.reduceAdd, Nat.reduceLeDiff, lim, Nat.reduceBEq, beq_self_eq_true, Bool.and_self, hz, ad]
  have hi := it_rng itR1 hm ir
  have lc := mlc_gen (own := [12]) (t := .nm 12) (c := mYes) hi (by rw [ln]; omega) f3
  have lc : mLc [12] (.nm 12) (mIt itR1 (mOp2 addD (mC (.int 2)) (mCall Z__law_take [.bo, .lk] [] [(mVar 3), (mC (.int 5))]))) mYes (mOp2 ixD (mVar 1) (mCall Z__law_take [.bo, .lk] [] [(mVar 3), (mC (.int 7))])) [e0, some (.sh (.str cl7)), e2, some (bg a m), e4, e5, none, none, none, none, none, none, none] = .ok (.ow (.fl ([] ++ few.map chD))) [e0, some (.sh (.str cl7)), e2, some (bg a2 m2), e4, e5, none, none, none, none, none, none, none] := lc
  rw [List.nil_append] at lc
  have rp : repL (.lst [.str [68]]) (.int t) = some (List.replicate t.toNat (.str [68])) := by
    have := rep_1 (v := .str [68]) (a := 0) (b := t.toNat) (by omega) (by omega)
    rw [show ((t.toNat : Nat) : Int) - ((0 : Nat) : Int) = t by omega, Nat.sub_zero] at this
    exact this
  have fl : few.length ≤ 6 := by omega
  have ct : catL (.lst (few.map chD)) (.lst (List.replicate t.toNat (.str [68]))) = some ((few ++ List.replicate t.toNat 68).map chD) := by
    rw [List.map_append, ← rep_ch]
    refine if_pos ?_
    rw [List.length_map, List.length_replicate]
    show _ ≤ 16777216
    omega
  refine ⟨a3, m3, few ++ List.replicate t.toNat 68, by rw [List.length_append]; omega, by rw [List.length_append, List.length_replicate]; omega, f2.app (rep_D _), ?_⟩
  generalize (mLc [12] (.nm 12) (mIt itR1 (mOp2 addD (mC (.int 2)) (mCall Z__law_take [.bo, .lk] [] [(mVar 3), (mC (.int 5))]))) mYes (mOp2 ixD (mVar 1) (mCall Z__law_take [.bo, .lk] [] [(mVar 3), (mC (.int 7))]))) = mx at *
  generalize (few ++ List.replicate t.toNat 68).map chD = FF at *
  generalize few.map chD = F0 at *
  generalize List.replicate t.toNat (F.D.str [68]) = F1 at *
  generalize cl7 = cc at *
  simp only [runF, gdO, finR, endF, allO, sSeq, sSet, setR, sOf, leak, mNextS, andThen, mVar, mC, slot, peek, peeks, nrm, O.pk, O.frz, mIf, mTB, mTru, mAnd, mOr, mNot, mOp1, mOp2, mOl1, mOl2, mTup, mLst, mLks, mDct, mDvs, mBi, mBl, mRs, mSm0, mSm1, mSl, mSlL, mPt, mIt, mItZ, zipR, mCall, asArgs, asArg, back, ofRes, mergeO, ofO, ofOS, sIf, sRet, sRetN, sPass, sExp, sAug, sUnp, sPar, sAsg2, sSto, sBrk, sCnt, sFor, sDrop, sMatch, mtL, mOs, setAll, sPut, mItK, mMut0, mMut1, wipeE, unwipe, lcEnd, mLc, mYes, mItS, mItR, mChain, mStar, mLstD, sSlSto, mCallV, mGet2, zipS, mBad, sBad, mNotV, mAndV, mOrV, Tg.put, putAll, List.map_cons, List.map_nil, List.replicate, List.cons_append, List.nil_append, List.getElem?_cons_zero, List.getElem?_cons_succ, Option.bind_some, List.set_cons_zero, List.set_cons_succ, List.take_succ_cons, List.take_zero, List.headD_cons, List.headD_nil, List.tail_cons, List.tail_nil, Option.map_some, Option.map_none, if_true, if_false, Bool.false_eq_true, ite_true, ite_false, Bool.not_true, Bool.not_false, Bool.true_and, Bool.false_and, List.contains, List.elem, List.append_nil, List.length_cons, List.length_nil, Nat.zero_add, Nat.reduceAdd, Nat.reduceLeDiff, lim, Nat.reduceBEq, beq_self_eq_true, Bool.and_self, lc, hz2, rp, ct]
theorem cls_ok {few : List Nat} (h0 : 0 < few.length) (h1 : few.length < 1000) (hf : OkC few) (e0 e1 e2 e4 e5 : Option O) (a m : Int) : ∃ (a' m' : Int) (y : List Nat), y.length ≤ 30 ∧ OkC y ∧
    (sSet 4 (mSm1 (fun x y => joinD (.str x) y) (mC (.str [])) (mLc [12] (.nm 12) (mIt itR1 (mCall Z__law_take [.bo, .lk] [] [(mVar 3), (mC (.int 31))])) mYes (mOp2 ixD (mVar 6) (mCall Z__law_take [.bo, .lk] [] [(mVar 3), (mBi lenD [(mVar 6)])]))))) [e0, e1, e2, some (bg a m), e4, e5, some (.fl (few.map chD)), none, none, none, none, none, none] =
      .nx [e0, e1, e2, some (bg a' m'), some (.sh (.str y)), e5, some (.fl (few.map chD)), none, none, none, none, none, none] := by
  obtain ⟨a1, m1, r, hz, r0, r1⟩ := z_take a m 31 (by decide) (by decide)
  have ir := itR1_ok r (by omega) (by omega)
  have ln := rngF_length 0 r.toNat
  obtain ⟨a2, m2, y, f1, f2, f3⟩ := text_l hf h0 h1 e0 e1 e2 e4 e5 none none none none none (rngF 0 r.toNat) [] a1 m1
  have hm : (mCall Z__law_take [.bo, .lk] [] [(mVar 3), (mC (.int 31))]) [e0, e1, e2, some (bg a m), e4, e5, some (.fl (few.map chD)), none, none, none, none, none, none] = .ok (.d (.int r)) [e0, e1, e2, some (bg a1 m1), e4, e5, some (.fl (few.map chD)), none, none, none, none, none, none] := by
    generalize few.map chD = F0 at *
    simp only [runF, gdO, finR, endF, allO, sSeq, sSet, setR, sOf, leak, mNextS, andThen, mVar, mC, slot, peek, peeks, nrm, O.pk, O.frz, mIf, mTB, mTru, mAnd, mOr, mNot, mOp1, mOp2, mOl1, mOl2, mTup, mLst, mLks, mDct, mDvs, mBi, mBl, mRs, mSm0, mSm1, mSl, mSlL, mPt, mIt, mItZ, zipR, mCall, asArgs, asArg, back, ofRes, mergeO, ofO, ofOS, sIf, sRet, sRetN, sPass, sExp, sAug, sUnp, sPar, sAsg2, sSto, sBrk, sCnt, sFor, sDrop, sMatch, mtL, mOs, setAll, sPut, mItK, mMut0, mMut1, wipeE, unwipe, lcEnd, mLc, mYes, mItS, mItR, mChain, mStar, mLstD, sSlSto, mCallV, mGet2, zipS, mBad, sBad, mNotV, mAndV, mOrV, Tg.put, putAll, List.map_cons, List.map_nil, List.replicate, List.cons_append, List.nil_append, List.getElem?_cons_zero, List.getElem?_cons_succ, Option.bind_some, List.set_cons_zero, List.set_cons_succ, List.take_succ_cons, List.take_zero, List.headD_cons, List.headD_nil, List.tail_cons, List.tail_nil, Option.map_some, Option.map_none, if_true, if_false, Bool.false_eq_true, ite_true, ite_false, Bool.not_true, Bool.not_false, Bool.true_and, Bool.false_and, List.contains, List.elem, List.append_nil, List.length_cons, List.length_nil, Nat.zero_add, Nat.reduceAdd, Nat.reduceLeDiff, lim, Nat.reduceBEq, beq_self_eq_true, Bool.and_self, hz]
  have hi := it_rng itR1 hm ir
  have lc := mlc_gen (own := [12]) (t := .nm 12) (c := mYes) hi (by rw [ln]; omega) f3
  have lc : mLc [12] (.nm 12) (mIt itR1 (mCall Z__law_take [.bo, .lk] [] [(mVar 3), (mC (.int 31))])) mYes (mOp2 ixD (mVar 6) (mCall Z__law_take [.bo, .lk] [] [(mVar 3), (mBi lenD [(mVar 6)])])) [e0, e1, e2, some (bg a m), e4, e5, some (.fl (few.map chD)), none, none, none, none, none, none] = .ok (.ow (.fl ([] ++ y.map chD))) [e0, e1, e2, some (bg a2 m2), e4, e5, some (.fl (few.map chD)), none, none, none, none, none, none] := lc
  rw [List.nil_append] at lc
  have jn := join_1 y (by omega)
  refine ⟨a2, m2, y, by omega, f2, ?_⟩
  generalize (mLc [12] (.nm 12) (mIt itR1 (mCall Z__law_take [.bo, .lk] [] [(mVar 3), (mC (.int 31))])) mYes (mOp2 ixD (mVar 6) (mCall Z__law_take [.bo, .lk] [] [(mVar 3), (mBi lenD [(mVar 6)])]))) = mx at *
  generalize few.map chD = F0 at *
  generalize y.map chD = F1 at *
  simp only [runF, gdO, finR, endF, allO, sSeq, sSet, setR, sOf, leak, mNextS, andThen, mVar, mC, slot, peek, peeks, nrm, O.pk, O.frz, mIf, mTB, mTru, mAnd, mOr, mNot, mOp1, mOp2, mOl1, mOl2, mTup, mLst, mLks, mDct, mDvs, mBi, mBl, mRs, mSm0, mSm1, mSl, mSlL, mPt, mIt, mItZ, zipR, mCall, asArgs, asArg, back, ofRes, mergeO, ofO, ofOS, sIf, sRet, sRetN, sPass, sExp, sAug, sUnp, sPar, sAsg2, sSto, sBrk, sCnt, sFor, sDrop, sMatch, mtL, mOs, setAll, sPut, mItK, mMut0, mMut1, wipeE, unwipe, lcEnd, mLc, mYes, mItS, mItR, mChain, mStar, mLstD, sSlSto, mCallV, mGet2, zipS, mBad, sBad, mNotV, mAndV, mOrV, Tg.put, putAll, List.map_cons, List.map_nil, List.replicate, List.cons_append, List.nil_append, List.getElem?_cons_zero, List.getElem?_cons_succ, Option.bind_some, List.set_cons_zero, List.set_cons_succ, List.take_succ_cons, List.take_zero, List.headD_cons, List.headD_nil, List.tail_cons, List.tail_nil, Option.map_some, Option.map_none, if_true, if_false, Bool.false_eq_true, ite_true, ite_false, Bool.not_true, Bool.not_false, Bool.true_and, Bool.false_and, List.contains, List.elem, List.append_nil, List.length_cons, List.length_nil, Nat.zero_add, Nat.reduceAdd, Nat.reduceLeDiff, lim, Nat.reduceBEq, beq_self_eq_true, Bool.and_self, lc, jn]
end F
end

section
set_option linter.all false
set_option autoImplicit false
set_option maxRecDepth 100000
set_option maxHeartbeats 1000000
/-! k23: the law, whole -/
namespace F
theorem lturn (e0 e2 : Option O) (x : List Nat) (d : F.D) (a m : Int) : ∃ (a' m' : Int) (y : List Nat), y.length ≤ 30 ∧ OkC y ∧
    b_law_1 [e0, some (.sh (.str cl7)), e2, some (bg a m), some (.sh (.str x)), some (.sh d), none, none, none, none, none, none, none] = .nx [e0, some (.sh (.str cl7)), e2, some (bg a' m'), some (.sh (.str y)), none, none, none, none, none, none, none, none] := by
  obtain ⟨a1, m1, few, f1, f2, f3, p1⟩ := few_ok e0 e2 (some (.sh (.str x))) (some (.sh d)) a m
  obtain ⟨a2, m2, y, y1, y2, p2⟩ := cls_ok f1 f2 f3 e0 (some (.sh (.str cl7))) e2 (some (.sh (.str x))) (some (.sh d)) a1 m1
  have lp : forL (.nm 7) b_law_0 dirs2 [e0, some (.sh (.str cl7)), e2, some (bg a2 m2), some (.sh (.str y)), some (.sh d), some (.fl (few.map chD)), none, none, none, none, none, none] = .nx [e0, some (.sh (.str cl7)), e2, some (bg a2 m2), some (.sh (.str y)), some (.sh d), some (.fl (few.map chD)), none, none, none, none, none, none] := for_same fun q hq => by
    obtain ⟨r, rfl⟩ := dirs_ok q hq
    exact ⟨_, rfl, same_turn y2 (by omega) r _ _ _ _ _ _ _ _ _ _ _⟩
  have it : itT (.tup dirs2) = some dirs2 := rfl
  have p3 : (sDrop (sFor (.nm 7) (mIt itT (mTup [(mC (.str [108, 101, 102, 116])), (mC (.str [114, 105, 103, 104, 116]))])) b_law_0) [7]) [e0, some (.sh (.str cl7)), e2, some (bg a2 m2), some (.sh (.str y)), some (.sh d), some (.fl (few.map chD)), none, none, none, none, none, none] = .nx [e0, some (.sh (.str cl7)), e2, some (bg a2 m2), some (.sh (.str y)), some (.sh d), some (.fl (few.map chD)), none, none, none, none, none, none] := by
    generalize few.map chD = F0 at *
    generalize cl7 = cc at *
    simp only [runF, gdO, finR, endF, allO, sSeq, sSet, setR, sOf, leak, mNextS, andThen, mVar, mC, slot, peek, peeks, nrm, O.pk, O.frz, mIf, mTB, mTru, mAnd, mOr, mNot, mOp1, mOp2, mOl1, mOl2, mTup, mLst, mLks, mDct, mDvs, mBi, mBl, mRs, mSm0, mSm1, mSl, mSlL, mPt, mIt, mItZ, zipR, mCall, asArgs, asArg, back, ofRes, mergeO, ofO, ofOS, sIf, sRet, sRetN, sPass, sExp, sAug, sUnp, sPar, sAsg2, sSto, sBrk, sCnt, sFor, sDrop, sMatch, mtL, mOs, setAll, sPut, mItK, mMut0, mMut1, wipeE, unwipe, lcEnd, mLc, mYes, mItS, mItR, mChain, mStar, mLstD, sSlSto, mCallV, mGet2, zipS, mBad, sBad, mNotV, mAndV, mOrV, Tg.put, putAll, List.map_cons, List.map_nil, List.replicate, List.cons_append, List.nil_append, List.getElem?_cons_zero, List.getElem?_cons_succ, Option.bind_some, List.set_cons_zero, List.set_cons_succ, List.take_succ_cons, List.take_zero, List.headD_cons, List.headD_nil, List.tail_cons, List.tail_nil, Option.map_some, Option.map_none, if_true, if_false, Bool.false_eq_true, ite_true, ite_false, Bool.not_true, Bool.not_false, Bool.true_and, Bool.false_and, List.contains, List.elem, List.append_nil, List.length_cons, List.length_nil, Nat.zero_add, Nat.reduceAdd, Nat.reduceLeDiff, lim, Nat.reduceBEq, beq_self_eq_true, Bool.and_self, it, lp]
  refine ⟨a2, m2, y, y1, y2, ?_⟩
  unfold b_law_1
  refine (drop_nx ((seq_nx p1).trans ((seq_nx p2).trans p3))).trans rfl
theorem lturns (e0 e2 : Option O) : ∀ (ds : List F.D) (x : List Nat) (a m : Int), x.length ≤ 30 → OkC x → ∃ (a' m' : Int) (y : List Nat), y.length ≤ 30 ∧ OkC y ∧
    forL (.nm 5) b_law_1 ds [e0, some (.sh (.str cl7)), e2, some (bg a m), some (.sh (.str x)), none, none, none, none, none, none, none, none] = .nx [e0, some (.sh (.str cl7)), e2, some (bg a' m'), some (.sh (.str y)), none, none, none, none, none, none, none, none]
  | [], x, a, m, h1, h2 => ⟨a, m, x, h1, h2, rfl⟩
  | d :: ds, x, a, m, h1, h2 => by
    obtain ⟨a1, m1, y, q1, q2, q3⟩ := lturn e0 e2 x d a m
    obtain ⟨a2, m2, z, w1, w2, w3⟩ := lturns e0 e2 ds y a1 m1 q1 q2
    exact ⟨a2, m2, z, w1, w2, by rw [for_cons rfl q3]; exact w3⟩
theorem cell_turn (ns : List Int) (i : Int) (hi : 0 ≤ i) : b_law_5 [some (.sh (.lst (ns.map .int))), some (.sh (.str cl7)), some (.sh (.int i)), none, none, none, none, none, none, none, none, none, none] = .nx [some (.sh (.lst (ns.map .int))), some (.sh (.str cl7)), none, none, none, none, none, none, none, none, none, none, none] := by
  obtain ⟨a, m, zb⟩ := z_bag ns i hi
  generalize hS : ns.map F.D.int = S at *
  have p0 : (sPar [3, 4] [(mCall Z__law_bag [] [] [(mVar 0), (mVar 2)]), (mC (.str []))]) [some (.sh (.lst S)), some (.sh (.str cl7)), some (.sh (.int i)), none, none, none, none, none, none, none, none, none, none] = .nx [some (.sh (.lst S)), some (.sh (.str cl7)), some (.sh (.int i)), some (bg a m), some (.sh (.str [])), none, none, none, none, none, none, none, none] := by
    generalize cl7 = cc at *
    simp only [runF, gdO, finR, endF, allO, sSeq, sSet, setR, sOf, leak, mNextS, andThen, mVar, mC, slot, peek, peeks, nrm, O.pk, O.frz, mIf, mTB, mTru, mAnd, mOr, mNot, mOp1, mOp2, mOl1, mOl2, mTup, mLst, mLks, mDct, mDvs, mBi, mBl, mRs, mSm0, mSm1, mSl, mSlL, mPt, mIt, mItZ, zipR, mCall, asArgs, asArg, back, ofRes, mergeO, ofO, ofOS, sIf, sRet, sRetN, sPass, sExp, sAug, sUnp, sPar, sAsg2, sSto, sBrk, sCnt, sFor, sDrop, sMatch, mtL, mOs, setAll, sPut, mItK, mMut0, mMut1, wipeE, unwipe, lcEnd, mLc, mYes, mItS, mItR, mChain, mStar, mLstD, sSlSto, mCallV, mGet2, zipS, mBad, sBad, mNotV, mAndV, mOrV, Tg.put, putAll, List.map_cons, List.map_nil, List.replicate, List.cons_append, List.nil_append, List.getElem?_cons_zero, List.getElem?_cons_succ, Option.bind_some, List.set_cons_zero, List.set_cons_succ, List.take_succ_cons, List.take_zero, List.headD_cons, List.headD_nil, List.tail_cons, List.tail_nil, Option.map_some, Option.map_none, if_true, if_false, Bool.false_eq_true, ite_true, ite_false, Bool.not_true, Bool.not_false, Bool.true_and, Bool.false_and, List.contains, List.elem, List.append_nil, List.length_cons, List.length_nil, Nat.zero_add, Nat.reduceAdd, Nat.reduceLeDiff, lim, Nat.reduceBEq, beq_self_eq_true, Bool.and_self, zb]
  obtain ⟨a1, m1, y, y1, y2, l1⟩ := lturns (some (.sh (.lst S))) (some (.sh (.int i))) (rngF 0 12) [] a m (by decide) (fun c h => by cases h)
  have it : itR1 (.int 12) = some (rngF 0 12) := rfl
  have p1 : (sDrop (sFor (.nm 5) (mIt itR1 (mC (.int 12))) b_law_1) [5, 6, 7]) [some (.sh (.lst S)), some (.sh (.str cl7)), some (.sh (.int i)), some (bg a m), some (.sh (.str [])), none, none, none, none, none, none, none, none] = .nx [some (.sh (.lst S)), some (.sh (.str cl7)), some (.sh (.int i)), some (bg a1 m1), some (.sh (.str y)), none, none, none, none, none, none, none, none] := by
    generalize rngF 0 12 = R at *
    generalize cl7 = cc at *
    simp only [runF, gdO, finR, endF, allO, sSeq, sSet, setR, sOf, leak, mNextS, andThen, mVar, mC, slot, peek, peeks, nrm, O.pk, O.frz, mIf, mTB, mTru, mAnd, mOr, mNot, mOp1, mOp2, mOl1, mOl2, mTup, mLst, mLks, mDct, mDvs, mBi, mBl, mRs, mSm0, mSm1, mSl, mSlL, mPt, mIt, mItZ, zipR, mCall, asArgs, asArg, back, ofRes, mergeO, ofO, ofOS, sIf, sRet, sRetN, sPass, sExp, sAug, sUnp, sPar, sAsg2, sSto, sBrk, sCnt, sFor, sDrop, sMatch, mtL, mOs, setAll, sPut, mItK, mMut0, mMut1, wipeE, unwipe, lcEnd, mLc, mYes, mItS, mItR, mChain, mStar, mLstD, sSlSto, mCallV, mGet2, zipS, mBad, sBad, mNotV, mAndV, mOrV, Tg.put, putAll, List.map_cons, List.map_nil, List.replicate, List.cons_append, List.nil_append, List.getElem?_cons_zero, List.getElem?_cons_succ, Option.bind_some, List.set_cons_zero, List.set_cons_succ, List.take_succ_cons, List.take_zero, List.headD_cons, List.headD_nil, List.tail_cons, List.tail_nil, Option.map_some, Option.map_none, if_true, if_false, Bool.false_eq_true, ite_true, ite_false, Bool.not_true, Bool.not_false, Bool.true_and, Bool.false_and, List.contains, List.elem, List.append_nil, List.length_cons, List.length_nil, Nat.zero_add, Nat.reduceAdd, Nat.reduceLeDiff, lim, Nat.reduceBEq, beq_self_eq_true, Bool.and_self, it, l1]
  obtain ⟨a2, m2, r, hz, r0, r1⟩ := z_take a1 m1 7 (by decide) (by decide)
  obtain ⟨a3, m3, t, hz2, t0, t1⟩ := z_take a2 m2 7 (by decide) (by decide)
  obtain ⟨c, hc, hx⟩ := ix_str (x := cl7) r0 r1
  obtain ⟨c', hc', hx'⟩ := ix_str (x := cl7) t0 t1
  have ad := add_str [c] [c'] (by simp)
  have p2 : (sSet 8 (mOp2 addD (mOp2 ixD (mVar 1) (mCall Z__law_take [.bo, .lk] [] [(mVar 3), (mC (.int 7))])) (mOp2 ixD (mVar 1) (mCall Z__law_take [.bo, .lk] [] [(mVar 3), (mC (.int 7))])))) [some (.sh (.lst S)), some (.sh (.str cl7)), some (.sh (.int i)), some (bg a1 m1), some (.sh (.str y)), none, none, none, none, none, none, none, none] = .nx [some (.sh (.lst S)), some (.sh (.str cl7)), some (.sh (.int i)), some (bg a3 m3), some (.sh (.str y)), none, none, none, some (.sh (.str ([c] ++ [c']))), none, none, none, none] := by
    generalize [c] ++ [c'] = w at *
    generalize ([c] : List Nat) = u at *
    generalize ([c'] : List Nat) = v at *
    generalize cl7 = cc at *
    simp only [runF, gdO, finR, endF, allO, sSeq, sSet, setR, sOf, leak, mNextS, andThen, mVar, mC, slot, peek, peeks, nrm, O.pk, O.frz, mIf, mTB, mTru, mAnd, mOr, mNot, mOp1, mOp2, mOl1, mOl2, mTup, mLst, mLks, mDct, mDvs, mBi, mBl, mRs, mSm0, mSm1, mSl, mSlL, mPt, mIt, mItZ, zipR, mCall, asArgs, asArg, back, ofRes, mergeO, ofO, ofOS, sIf, sRet, sRetN, sPass, sExp, sAug, sUnp, sPar, sAsg2, sSto, sBrk, sCnt, sFor, sDrop, sMatch, mtL, mOs, setAll, sPut, mItK, mMut0, mMut1, wipeE, unwipe, lcEnd, mLc, mYes, mItS, mItR, mChain, mStar, mLstD, sSlSto, mCallV, mGet2, zipS, mBad, sBad, mNotV, mAndV, mOrV, Tg.put, putAll, List.map_cons, List.map_nil, List.replicate, List.cons_append, List.nil_append, List.getElem?_cons_zero, List.getElem?_cons_succ, Option.bind_some, List.set_cons_zero, List.set_cons_succ, List.take_succ_cons, List.take_zero, List.headD_cons, List.headD_nil, List.tail_cons, List.tail_nil, Option.map_some, Option.map_none, if_true, if_false, Bool.false_eq_true, ite_true, ite_false, Bool.not_true, Bool.not_false, Bool.true_and, Bool.false_and, List.contains, List.elem, List.append_nil, List.length_cons, List.length_nil, Nat.zero_add, Nat.reduceAdd, Nat.reduceLeDiff, lim, Nat.reduceBEq, beq_self_eq_true, Bool.and_self, hz, hz2, hx, hx', ad]
  have ok2 : OkC ([c] ++ [c']) := fun q hq => by
    rcases List.mem_append.mp hq with hq | hq
    · rw [List.mem_singleton.mp hq]
      exact hc
    · rw [List.mem_singleton.mp hq]
      exact hc'
  have l3 := all_four ok2 (by simp) (some (.sh (.lst S))) (some (.sh (.int i))) (some (bg a3 m3)) (some (.sh (.str y))) none none none
  have is := itS_x cl7
  have p3 : (sDrop (sFor (.nm 9) (mIt itS (mVar 1)) b_law_4) [7, 9, 10, 11]) [some (.sh (.lst S)), some (.sh (.str cl7)), some (.sh (.int i)), some (bg a3 m3), some (.sh (.str y)), none, none, none, some (.sh (.str ([c] ++ [c']))), none, none, none, none] = .nx [some (.sh (.lst S)), some (.sh (.str cl7)), some (.sh (.int i)), some (bg a3 m3), some (.sh (.str y)), none, none, none, some (.sh (.str ([c] ++ [c']))), none, none, none, none] := by
    generalize [c] ++ [c'] = w at *
    generalize cl7.map chD = I at *
    generalize cl7 = cc at *
    simp only [runF, gdO, finR, endF, allO, sSeq, sSet, setR, sOf, leak, mNextS, andThen, mVar, mC, slot, peek, peeks, nrm, O.pk, O.frz, mIf, mTB, mTru, mAnd, mOr, mNot, mOp1, mOp2, mOl1, mOl2, mTup, mLst, mLks, mDct, mDvs, mBi, mBl, mRs, mSm0, mSm1, mSl, mSlL, mPt, mIt, mItZ, zipR, mCall, asArgs, asArg, back, ofRes, mergeO, ofO, ofOS, sIf, sRet, sRetN, sPass, sExp, sAug, sUnp, sPar, sAsg2, sSto, sBrk, sCnt, sFor, sDrop, sMatch, mtL, mOs, setAll, sPut, mItK, mMut0, mMut1, wipeE, unwipe, lcEnd, mLc, mYes, mItS, mItR, mChain, mStar, mLstD, sSlSto, mCallV, mGet2, zipS, mBad, sBad, mNotV, mAndV, mOrV, Tg.put, putAll, List.map_cons, List.map_nil, List.replicate, List.cons_append, List.nil_append, List.getElem?_cons_zero, List.getElem?_cons_succ, Option.bind_some, List.set_cons_zero, List.set_cons_succ, List.take_succ_cons, List.take_zero, List.headD_cons, List.headD_nil, List.tail_cons, List.tail_nil, Option.map_some, Option.map_none, if_true, if_false, Bool.false_eq_true, ite_true, ite_false, Bool.not_true, Bool.not_false, Bool.true_and, Bool.false_and, List.contains, List.elem, List.append_nil, List.length_cons, List.length_nil, Nat.zero_add, Nat.reduceAdd, Nat.reduceLeDiff, lim, Nat.reduceBEq, beq_self_eq_true, Bool.and_self, is, l3]
  obtain ⟨a4, m4, zr⟩ := z_refs y2 y1 a3 m3
  have p4 : (sIf (mNot (mTB (mCall Z__law_refusals_right [.bo, .lk] [] [(mVar 3), (mVar 4)]))) (sRet (mC (.bl false))) sPass) [some (.sh (.lst S)), some (.sh (.str cl7)), some (.sh (.int i)), some (bg a3 m3), some (.sh (.str y)), none, none, none, some (.sh (.str ([c] ++ [c']))), none, none, none, none] = .nx [some (.sh (.lst S)), some (.sh (.str cl7)), some (.sh (.int i)), some (bg a4 m4), some (.sh (.str y)), none, none, none, some (.sh (.str ([c] ++ [c']))), none, none, none, none] := by
    generalize [c] ++ [c'] = w at *
    generalize cl7 = cc at *
    simp only [runF, gdO, finR, endF, allO, sSeq, sSet, setR, sOf, leak, mNextS, andThen, mVar, mC, slot, peek, peeks, nrm, O.pk, O.frz, mIf, mTB, mTru, mAnd, mOr, mNot, mOp1, mOp2, mOl1, mOl2, mTup, mLst, mLks, mDct, mDvs, mBi, mBl, mRs, mSm0, mSm1, mSl, mSlL, mPt, mIt, mItZ, zipR, mCall, asArgs, asArg, back, ofRes, mergeO, ofO, ofOS, sIf, sRet, sRetN, sPass, sExp, sAug, sUnp, sPar, sAsg2, sSto, sBrk, sCnt, sFor, sDrop, sMatch, mtL, mOs, setAll, sPut, mItK, mMut0, mMut1, wipeE, unwipe, lcEnd, mLc, mYes, mItS, mItR, mChain, mStar, mLstD, sSlSto, mCallV, mGet2, zipS, mBad, sBad, mNotV, mAndV, mOrV, Tg.put, putAll, List.map_cons, List.map_nil, List.replicate, List.cons_append, List.nil_append, List.getElem?_cons_zero, List.getElem?_cons_succ, Option.bind_some, List.set_cons_zero, List.set_cons_succ, List.take_succ_cons, List.take_zero, List.headD_cons, List.headD_nil, List.tail_cons, List.tail_nil, Option.map_some, Option.map_none, if_true, if_false, Bool.false_eq_true, ite_true, ite_false, Bool.not_true, Bool.not_false, Bool.true_and, Bool.false_and, List.contains, List.elem, List.append_nil, List.length_cons, List.length_nil, Nat.zero_add, Nat.reduceAdd, Nat.reduceLeDiff, lim, Nat.reduceBEq, beq_self_eq_true, Bool.and_self, zr]
  unfold b_law_5
  exact (drop_nx ((seq_nx p0).trans ((seq_nx p1).trans ((seq_nx p2).trans ((seq_nx p3).trans p4))))).trans rfl
theorem end1 : Z_relative_levels [.sh (.str []), .sh (.str [108, 101, 102, 116])] = .rt (.sh (.tup [])) [.sh (.str []), .sh (.str [108, 101, 102, 116])] := by kernel_rfl
theorem end2 : Z_relative_levels [.sh (.str [84, 68, 84, 83, 68, 83, 84]), .sh (.str [114, 105, 103, 104, 116])] = .rt (.sh (.tup [.int 1, .int 1, .int 1, .int 0, .int 1, .int 0, .int 0])) [.sh (.str [84, 68, 84, 83, 68, 83, 84]), .sh (.str [114, 105, 103, 104, 116])] := by kernel_rfl
theorem plain (ns : List Int) (h : ns.length ≤ 63) : ∃ os, Z_law [.sh (.lst (ns.map .int))] = .rt (.sh (.bl true)) os := by
  have ll := len_lst (ns.map F.D.int)
  have mi := min_int 4 ((ns.map F.D.int).length : Nat)
  have ma := max_int 2 (if ((ns.map F.D.int).length : Int) < 4 then ((ns.map F.D.int).length : Int) else 4)
  have hb : 0 ≤ (if (if ((ns.map F.D.int).length : Int) < 4 then ((ns.map F.D.int).length : Int) else 4) > 2 then (if ((ns.map F.D.int).length : Int) < 4 then ((ns.map F.D.int).length : Int) else 4) else 2) ∧ (if (if ((ns.map F.D.int).length : Int) < 4 then ((ns.map F.D.int).length : Int) else 4) > 2 then (if ((ns.map F.D.int).length : Int) < 4 then ((ns.map F.D.int).length : Int) else 4) else 2) ≤ 4 := by
    constructor
    · repeat' split
      all_goals omega
    · repeat' split
      all_goals omega
  generalize (if (if ((ns.map F.D.int).length : Int) < 4 then ((ns.map F.D.int).length : Int) else 4) > 2 then (if ((ns.map F.D.int).length : Int) < 4 then ((ns.map F.D.int).length : Int) else 4) else 2) = n at *
  generalize (if ((ns.map F.D.int).length : Int) < 4 then ((ns.map F.D.int).length : Int) else 4) = n1 at *
  have it := itR1_ok n (by omega) (by omega)
  have lp : forL (.nm 2) b_law_5 (rngF 0 n.toNat) [some (.sh (.lst (ns.map .int))), some (.sh (.str cl7)), none, none, none, none, none, none, none, none, none, none, none] = .nx [some (.sh (.lst (ns.map .int))), some (.sh (.str cl7)), none, none, none, none, none, none, none, none, none, none, none] := for_same fun d hd => by
    rw [rngF_map] at hd
    obtain ⟨i, _, rfl⟩ := List.mem_map.mp hd
    exact ⟨_, rfl, cell_turn ns _ (by omega)⟩
  have q1 : eqD (.tup []) (.tup []) = some (.bl true) := rfl
  have q2 : eqD (.tup [.int 1, .int 1, .int 1, .int 0, .int 1, .int 0, .int 0]) (.tup [.int 1, .int 1, .int 1, .int 0, .int 1, .int 0, .int 0]) = some (.bl true) := rfl
  have z1 := end1
  have z2 := end2
  generalize rngF 0 n.toNat = R at *
  generalize ((ns.map F.D.int).length : Int) = Ln at *
  generalize ns.map F.D.int = S at *
  refine ⟨[.sh (.lst S)], ?_⟩
  have tb : truD (.bl true) = some true := rfl
  unfold Z_law m_law
  generalize itR1 = fR at *
  generalize Z_relative_levels = zr at *
  simp only [runF, gdO, finR, endF, allO, sSeq, sSet, setR, sOf, leak, mNextS, andThen, mVar, mC, slot, peek, peeks, nrm, O.pk, O.frz, mIf, mTB, mTru, mAnd, mOr, mNot, mOp1, mOp2, mOl1, mOl2, mTup, mLst, mLks, mDct, mDvs, mBi, mBl, mRs, mSm0, mSm1, mSl, mSlL, mPt, mIt, mItZ, zipR, mCall, asArgs, asArg, back, ofRes, mergeO, ofO, ofOS, sIf, sRet, sRetN, sPass, sExp, sAug, sUnp, sPar, sAsg2, sSto, sBrk, sCnt, sFor, sDrop, sMatch, mtL, mOs, setAll, sPut, mItK, mMut0, mMut1, wipeE, unwipe, lcEnd, mLc, mYes, mItS, mItR, mChain, mStar, mLstD, sSlSto, mCallV, mGet2, zipS, mBad, sBad, mNotV, mAndV, mOrV, Tg.put, putAll, List.map_cons, List.map_nil, List.replicate, List.cons_append, List.nil_append, List.getElem?_cons_zero, List.getElem?_cons_succ, Option.bind_some, List.set_cons_zero, List.set_cons_succ, List.take_succ_cons, List.take_zero, List.headD_cons, List.headD_nil, List.tail_cons, List.tail_nil, Option.map_some, Option.map_none, if_true, if_false, Bool.false_eq_true, ite_true, ite_false, Bool.not_true, Bool.not_false, Bool.true_and, Bool.false_and, List.contains, List.elem, List.append_nil, List.length_cons, List.length_nil, Nat.zero_add, Nat.reduceAdd, Nat.reduceLeDiff, lim, Nat.reduceBEq, beq_self_eq_true, Bool.and_self, ll, mi, ma, it, lp, z1, z2, q1, q2, tb]
end F
end

section
set_option Elab.async false
set_option linter.all false
set_option autoImplicit false
set_option maxRecDepth 100000
set_option maxHeartbeats 0

namespace F
open PySem PySem.Spec PyProof.Rows L2
abbrev RW : PySem.W.OpenRow := PySem.W.OpenLaw.row PySem.Challenge.rw_holedlines_k23_levels_of_parts_by_classe
abbrev hk : PySem.W.Hook := He.hookX 4 fa fn ts tf exB
def ob (s : PySem.W.SharedT) : He.AlX := He.obsX 4 fa fn ts tf exB (HandSHeadRun.getT s)
theorem ob_eq (s : PySem.W.SharedT) : ob s = hk.obs s.abs := He.obsX_eq (HandSHeadRun.getT_eq s)
def names : List Str := (["BadText", "BadWord", "MOST_CHARACTERS", "MOST_OPEN", "CLASSES", "BEGINS", "END", "STRONG", "KNOWN", "overfull", "first_unknown", "first_fault", "need_text", "LEFT", "RIGHT", "DIRECTIONS", "need_direction", "PLAIN", "EASTERN", "DIGITS"] : List Str) ++ (["strong_before", "digits_told", "intervals", "signs_joined", "directions_told", "resolved", "relative_levels", "_law_bag", "_law_take", "_law_digits", "_law_relative", "_law_refused", "_law_refusals_right"] : List Str)
theorem run_n (w : World) : HandSHeadRun.RunEq RW (PySem.W.view RW.prog [38]) hk ob 4000 names (w.withFollow "special-get-raises" false) := fun os => by kernel_rfl
theorem run_y (w : World) : HandSHeadRun.RunEq RW (PySem.W.view RW.prog [38]) hk ob 4000 names (w.withFollow "special-get-raises" true) := fun os => by kernel_rfl
theorem run (w : World) : HandSHeadRun.RunEq RW (PySem.W.view RW.prog [38]) hk ob 4000 names w :=
  PySem.W.byRow2 "special-get-raises" (P := fun w => HandSHeadRun.RunEq RW (PySem.W.view RW.prog [38]) hk ob 4000 names w) run_n run_y w
end F
end

section
set_option Elab.async false
set_option linter.all false
set_option autoImplicit false
set_option maxRecDepth 100000
set_option maxHeartbeats 0
namespace F
open PySem PySem.Spec PyProof.Rows L2
theorem facts {P : Program} {w : World} {K : PySem.W.Frag} {h : Heap} {mg : Str → Option Value} {f : Addr} (X : K.In h) (G : h.Ns mainGlobals mg) (hfa : mg ("law" : Str) = some (.ref f)) (c : He.SaysX fa fn ts tf exB w h K) :
    ∃ fd : FuncData, (∀ (s : Shared) (v : Value), BindsTo s fd ⟨[v], []⟩ [("_law_script", v)]) ∧ ∀ base : Heap, K.In base → base.Ns mainGlobals mg → Bx K mg base → FnQ P w K mg base (L2.CX P w) 9 f fd ["_law_script"] (spF (tb K) ⟨K, (tb K).cls, (tb K).fld, (tb K).tabs, (tb K).ex, (tb K).exM, (tb K).exR⟩ Z_law 1) := by
  have F : Fx w K mg := ⟨h, X, G, c⟩
  have e := hfa.symm.trans (g_law F)
  cases e
  obtain ⟨fd, hf⟩ := fd_law F
  have b := FunD.bindsA (ps := ["_law_script"]) hf fun _ _ _ _ _ _ us hl => match us, hl with | [_], _ => rfl
  refine ⟨fd, fun s v => b s [v] rfl, fun base _ _ B => ?_⟩
  obtain ⟨fd', hf', h'⟩ := o_law (P := P) (base := base) F B
  rw [fd_uniq hf hf']
  exact h'
end F
open PySem PySem.W PySem.Calls PyProof.Rows
theorem PySem.Challenge.cw_holedlines_k23_levels_of_parts_by_classe_holds : PySem.Challenge.rw_holedlines_k23_levels_of_parts_by_classe.Holds := by
  w_on; o_law
  refine HandSHeadRun.head_any (r := F.RW) (q := view F.RW.prog [38]) (H := F.hk) (ob := F.ob) (M := 4000) (loose := F.names) (d := HandSHeadRun.topDef F.RW.prog 38) (kwd := []) F.ob_eq
    (by kernel_rfl) (fun s => by kernel_rfl) F.run (by kernel_rfl) (by kernel_rfl) (by kernel_rfl) (by rfl) (by first | assumption | decide +kernel) (by decide +kernel) ⟨rfl, rfl, rfl, rfl, rfl, by decide +kernel⟩ ?hw ?hc
  case hw => w_witness2
  case hc =>
    refine F.walk_q (l := PySem.Challenge.rw_holedlines_k23_levels_of_parts_by_classe) (n := 63) (k := 9) (x := "_law_script") (CX := fun w => L2.CX PySem.Challenge.rw_holedlines_k23_levels_of_parts_by_classe.prog w) rfl (by decide) (by kernel_rfl) ⟨rfl, by decide, by decide⟩ ?F (fun _ => F.no_exc)
    intro w mg fa h Y G hmg0
    obtain ⟨K, KX, c⟩ := Y
    have hmg : mg ("law" : PySem.Str) = some (.ref fa) := by
      have e : (HandSHeadRun.topDef F.RW.prog 38).name = ("law" : PySem.Str) := by kernel_rfl
      rw [← e]
      exact hmg0
    obtain ⟨fd, hb, hF⟩ := F.facts (P := PySem.Challenge.rw_holedlines_k23_levels_of_parts_by_classe.prog) (w := w) KX G hmg c
    refine ⟨K, KX, fd, F.tf.map (He.cT K), _, ⟨?_, ?_, ?_⟩, hb, fun H a ns hl _ hT hS => F.law_end (t := F.tb K) F.plain H a ns hl (fun p hp => ?_) hS, fun base hK hG hB => hF base hK hG fun p hp => hB _ (List.mem_map.mpr ⟨p, hp, rfl⟩)⟩
    · intro p hp
      obtain ⟨q, hq, e⟩ := List.mem_map.mp hp
      rw [← e]
      exact c.empty q hq
    · intro p hp
      obtain ⟨q, hq, e⟩ := List.mem_map.mp hp
      rw [← e]
      exact c.out q hq
    · intro p hp
      obtain ⟨q, hq, e⟩ := List.mem_map.mp hp
      rw [← e]
      exact codeHd_of_K KX (c.hd q hq)
    · obtain ⟨q, hq, e⟩ := List.mem_map.mp hp
      rw [← e]
      exact hT _ (List.mem_map.mpr ⟨_, F.tf_of q hq, rfl⟩)
end
