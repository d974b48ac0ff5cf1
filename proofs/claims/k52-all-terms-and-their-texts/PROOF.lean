import PyProof.Rows.All
import Wide.All
import OpenK.AllK
import Wide.FinOn
import HandS.ForMost
import HandS.Exc
import HandS.CallSlots
import HandS.WordsExc
import HandS.Flow
import HandS.Lambda
import HandS.Deep
import HandS.TupAny
import HandS.TupLe
import HandS.TupMul
import HandS.Style
import KE.SortData
import HandS.IsInst
import HandS.WordsDict
import HandS.TupLen
import HandS.SetKeys
import HandS.Small
import HandS.ReCall
import PyProof.EqAt
import HandS.TryOnly
import HandS.Zip
import HandS.Defaults
import HandS.ExcInit
import HandS.ExcIs
import HandS.Nested
import KE.KExcSuper
import KE.KSuper
import HandS.Conv
import HandS.More
import HandS.Iter
import HandS.DictComp
import KE.KDictKeyed
import KE.KDictDisplayH
import KE.GoesEnum
import PyProof.SumAnyB
import KE.KDictPairs
import PyProof.DictUpdate
import HandS.OwnEq
import PyProof.InstEq
import HandS.HeadHook2
import HandS.EndTab
import HandS.HeadWalk
import HandS.DictTup
import KE.KDictCopyH
import KE.DataMinMax
import HandS.ExcField
import KE.KExcIs
import HandS.HeadHook1
import HandS.HeadHook4
import PyProof.ReprRoads
import PyProof.ReprLen
import PyProof.ReprText
import PyProof.StrLawsRepr
import HandS.Head0
import HandS.Head1
import HandS.Head2
import HandS.HeadEnd
import PySem.Challenge.RW_pairhouses_k52_whole_all_terms_and_their
set_option Elab.async false
set_option linter.all false
set_option maxRecDepth 100000
section
set_option autoImplicit false
namespace Mi
inductive D where
  | non | bl (b : Bool) | int (i : Int) | str (s : List Nat)
  | tup (xs : List D) | lst (xs : List D) | dct (kvs : List (D × D))
  | ins (c : Nat) (fs : List (Nat × D)) | loc (l : Nat)
  /- the script itself; the error that a clause holds -/
  | scr (xs : List D) | exn
  deriving Inhabited
mutual
def D.same : D → D → Bool
  | .non, .non => true
  | .bl a, .bl b => a == b
  | .int a, .int b => decide (a = b)
  | .str a, .str b => decide (a = b)
  | .tup a, .tup b => sameL a b
  | .lst a, .lst b => sameL a b
  | .dct a, .dct b => sameK a b
  | .ins c a, .ins d b => decide (c = d) && sameF a b
  | .loc a, .loc b => decide (a = b)
  | .scr a, .scr b => sameL a b
  | .exn, .exn => true
  | _, _ => false
def sameL : List D → List D → Bool
  | [], [] => true
  | x :: xs, y :: ys => x.same y && sameL xs ys
  | _, _ => false
def sameK : List (D × D) → List (D × D) → Bool
  | [], [] => true
  | (k, v) :: xs, (k', v') :: ys => k.same k' && v.same v' && sameK xs ys
  | _, _ => false
def sameF : List (Nat × D) → List (Nat × D) → Bool
  | [], [] => true
  | (k, v) :: xs, (k', v') :: ys => decide (k = k') && v.same v' && sameF xs ys
  | _, _ => false
end
mutual
theorem D.same_iff : ∀ a b : D, a.same b = true ↔ a = b
  | .non, b => by cases b <;> simp [D.same]
  | .bl a, b => by cases b <;> simp [D.same]
  | .int a, b => by cases b <;> simp [D.same]
  | .str a, b => by cases b <;> simp [D.same]
  | .tup a, b => by cases b <;> simp [D.same, sameL_iff a]
  | .lst a, b => by cases b <;> simp [D.same, sameL_iff a]
  | .dct a, b => by cases b <;> simp [D.same, sameK_iff a]
  | .ins c a, b => by cases b <;> simp [D.same, sameF_iff a]
  | .loc a, b => by cases b <;> simp [D.same]
  | .scr a, b => by cases b <;> simp [D.same, sameL_iff a]
  | .exn, b => by cases b <;> simp [D.same]
theorem sameL_iff : ∀ a b : List D, sameL a b = true ↔ a = b
  | [], b => by cases b <;> simp [sameL]
  | x :: xs, b => by cases b <;> simp [sameL, D.same_iff x, sameL_iff xs]
theorem sameK_iff : ∀ a b : List (D × D), sameK a b = true ↔ a = b
  | [], b => by cases b <;> simp [sameK]
  | (k, v) :: xs, b => by
    cases b with
    | nil => simp [sameK]
    | cons y ys => obtain ⟨k', v'⟩ := y; simp [sameK, D.same_iff k, D.same_iff v, sameK_iff xs]
theorem sameF_iff : ∀ a b : List (Nat × D), sameF a b = true ↔ a = b
  | [], b => by cases b <;> simp [sameF]
  | (k, v) :: xs, b => by
    cases b with
    | nil => simp [sameF]
    | cons y ys => obtain ⟨k', v'⟩ := y; simp [sameF, D.same_iff v, sameF_iff xs]
end
instance : DecidableEq D := fun a b => if h : a.same b = true then isTrue ((D.same_iff a b).mp h) else isFalse fun e => h ((D.same_iff a b).mpr e)
inductive Cell where
  | lst (xs : List D) | dct (kvs : List (D × D)) | ins (c : Nat) (fs : List (Nat × D)) | dead
  deriving Inhabited
abbrev Sto := List Cell
/-- an own error: its class, its fields -/
structure Exn where
  c : Nat
  fs : List (Nat × D)
inductive Out (α : Type) where
  | ok (a : α) (st : Sto)
  | exc (e : Exn) (st : Sto)
  | bad
abbrev Env := List (Option D)
abbrev XE := Env → Sto → Out D
abbrev XT := Env → Sto → Out Bool
abbrev XA := Env → Sto → Out (List D)
inductive OutS where
  | nx (σ : Env) (st : Sto)
  | rt (d : D) (st : Sto)
  | bk (σ : Env) (st : Sto)
  | ct (σ : Env) (st : Sto)
  | exc (e : Exn) (σ : Env) (st : Sto)
  | bad
abbrev XS := Env → Sto → OutS
abbrev Fn := List D → Sto → Out D
def Out.bind {α β : Type} (o : Out α) (k : α → Sto → Out β) : Out β := match o with
  | .ok a st => k a st
  | .exc e st => .exc e st
  | .bad => .bad
@[simp] theorem Out.bind_ok {α β : Type} (a : α) (st : Sto) (k : α → Sto → Out β) : (Out.ok a st).bind k = k a st := rfl
def ofOpt {α : Type} (o : Option α) (st : Sto) : Out α := match o with
  | some a => .ok a st
  | none => .bad
@[simp] theorem ofOpt_some {α : Type} (a : α) (st : Sto) : ofOpt (some a) st = .ok a st := rfl
@[simp] theorem ofOpt_none {α : Type} (st : Sto) : ofOpt (none : Option α) st = .bad := rfl
def szL : Nat := 16777216
/-- a list's items: frozen or live -/
def lstOf (st : Sto) : D → Option (List D)
  | .lst xs => some xs
  | .loc l => match st[l]? with
    | some (.lst xs) => some xs
    | _ => none
  | _ => none
/-- a list's or a tuple's items -/
def seqOf (st : Sto) : D → Option (List D)
  | .tup xs => some xs
  | d => lstOf st d
def dctOf (st : Sto) : D → Option (List (D × D))
  | .dct xs => some xs
  | .loc l => match st[l]? with
    | some (.dct xs) => some xs
    | _ => none
  | _ => none
def insOf (st : Sto) : D → Option (Nat × List (Nat × D))
  | .ins c fs => some (c, fs)
  | .loc l => match st[l]? with
    | some (.ins c fs) => some (c, fs)
    | _ => none
  | _ => none
def getF (fs : List (Nat × D)) (i : Nat) : Option D := match fs with
  | [] => none
  | (j, d) :: r => if j = i then some d else getF r i
def putF (fs : List (Nat × D)) (i : Nat) (v : D) : List (Nat × D) := match fs with
  | [] => [(i, v)]
  | (j, d) :: r => if j = i then (j, v) :: r else (j, d) :: putF r i v
def getK (kvs : List (D × D)) (k : D) : Option D := match kvs with
  | [] => none
  | (j, d) :: r => if j = k then some d else getK r k
def putK (kvs : List (D × D)) (k v : D) : List (D × D) := if kvs.any (fun p => decide (p.1 = k)) = true then kvs.map (fun p => if p.1 = k then (p.1, v) else p) else kvs ++ [(k, v)]
/-- keys: numbers and texts, or tuples of these -/
def D.isKey0 : D → Bool
  | .int _ => true
  | .str _ => true
  | _ => false
def D.isKey1 : D → Bool
  | .tup xs => xs.all D.isKey0
  | _ => false
def D.isKey (d : D) : Bool := d.isKey0 || d.isKey1
/-- may k be asked of these? all keys are of one kind with k, or there are none -/
def keysFit (kvs : List (D × D)) (k : D) : Bool := (k.isKey0 && kvs.all fun p => p.1.isKey0) || (k.isKey1 && kvs.all fun p => p.1.isKey1)
mutual
/-- no live cell in it -/
def D.pure : D → Bool
  | .tup xs => pureL xs
  | .lst xs => pureL xs
  | .dct kvs => pureK kvs
  | .ins _ fs => pureF fs
  | .loc _ => false
  | .scr _ => false
  | .exn => false
  | _ => true
def pureL : List D → Bool
  | [] => true
  | x :: xs => x.pure && pureL xs
def pureK : List (D × D) → Bool
  | [] => true
  | (k, v) :: xs => k.pure && v.pure && pureK xs
def pureF : List (Nat × D) → Bool
  | [] => true
  | (_, v) :: xs => v.pure && pureF xs
end
mutual
/-- all its live cells are numbered below n -/
def D.under (n : Nat) : D → Bool
  | .tup xs => underL n xs
  | .lst xs => underL n xs
  | .dct kvs => underK n kvs
  | .ins _ fs => underF n fs
  | .loc l => decide (l < n)
  | .scr _ => false
  | .exn => false
  | _ => true
def underL (n : Nat) : List D → Bool
  | [] => true
  | x :: xs => x.under n && underL n xs
def underK (n : Nat) : List (D × D) → Bool
  | [] => true
  | (k, v) :: xs => k.under n && v.under n && underK n xs
def underF (n : Nat) : List (Nat × D) → Bool
  | [] => true
  | (_, v) :: xs => v.under n && underF n xs
end
def Cell.under (n : Nat) : Cell → Bool
  | .lst xs => underL n xs
  | .dct kvs => underK n kvs
  | .ins _ fs => underF n fs
  | .dead => true
def cellsUnder (n : Nat) : Sto → Bool
  | [] => true
  | c :: r => c.under n && cellsUnder n r
section
variable (f : Nat → Sto → Option (D × Sto))
mutual
/-- what f makes of the live cells in it -/
def trD : Sto → D → Option (D × Sto)
  | st, .tup xs => (trL st xs).map fun r => (.tup r.1, r.2)
  | st, .lst xs => (trL st xs).map fun r => (.lst r.1, r.2)
  | st, .dct kvs => (trK st kvs).map fun r => (.dct r.1, r.2)
  | st, .ins c fs => (trF st fs).map fun r => (.ins c r.1, r.2)
  | st, .loc l => f l st
  | st, d => some (d, st)
def trL : Sto → List D → Option (List D × Sto)
  | st, [] => some ([], st)
  | st, x :: xs => match trD st x with
    | some (y, st1) => (trL st1 xs).map fun r => (y :: r.1, r.2)
    | none => none
def trK : Sto → List (D × D) → Option (List (D × D) × Sto)
  | st, [] => some ([], st)
  | st, (k, v) :: xs => match trD st v with
    | some (y, st1) => if k.isKey then (trK st1 xs).map fun r => ((k, y) :: r.1, r.2) else none
    | none => none
def trF : Sto → List (Nat × D) → Option (List (Nat × D) × Sto)
  | st, [] => some ([], st)
  | st, (i, v) :: xs => match trD st v with
    | some (y, st1) => (trF st1 xs).map fun r => ((i, y) :: r.1, r.2)
    | none => none
end
end
/-- the live cell l frozen, the cell dead; n is fuel for cells within cells -/
def fzN : Nat → Nat → Sto → Option (D × Sto)
  | 0, _, _ => none
  | n + 1, l, st => match st[l]? with
    | some (.lst xs) => (trL (fzN n) (st.set l .dead) xs).map fun r => (.lst r.1, r.2)
    | some (.dct kvs) => (trK (fzN n) (st.set l .dead) kvs).map fun r => (.dct r.1, r.2)
    | some (.ins c fs) => (trF (fzN n) (st.set l .dead) fs).map fun r => (.ins c r.1, r.2)
    | _ => none
def fz (st : Sto) (d : D) : Option (D × Sto) := trD (fzN 6) st d
def setV (σ : Env) (i : Nat) (d : D) : Env := σ.set i (some d)
def wipeV (σ : Env) : List Nat → Env
  | [] => σ
  | v :: vs => (wipeV σ vs).set v none
def xC (d : D) : XE := fun _ st => .ok d st
def xVar (i : Nat) : XE := fun σ st => match σ[i]? with
  | some (some d) => .ok d st
  | _ => .bad
/-- by two values -/
def xOp (g : Sto → D → D → Option D) (ma mb : XE) : XE := fun σ st => (ma σ st).bind fun a st1 => (mb σ st1).bind fun b st2 => ofOpt (g st2 a b) st2
def xUn (g : Sto → D → Option D) (ma : XE) : XE := fun σ st => (ma σ st).bind fun a st1 => ofOpt (g st1 a) st1
def xNil : XA := fun _ st => .ok [] st
def xCons (ma : XE) (mr : XA) : XA := fun σ st => (ma σ st).bind fun a st1 => (mr σ st1).bind fun r st2 => .ok (a :: r) st2
def xTup (ma : XA) : XE := fun σ st => (ma σ st).bind fun ds st1 => if ds.length ≤ szL then .ok (.tup ds) st1 else .bad
/-- what makes a new list gives its items; frozen, live -/
abbrev XL := Env → Sto → Out (List D)
def xLst (ma : XA) : XL := fun σ st => (ma σ st).bind fun ds st1 => if ds.length ≤ szL then .ok ds st1 else .bad
def xFrz (m : XL) : XE := fun σ st => (m σ st).bind fun ds st1 => .ok (.lst ds) st1
def xLive (m : XL) : XE := fun σ st => (m σ st).bind fun ds st1 => .ok (.loc st1.length) (st1 ++ [.lst ds])
/-- what makes a new dict gives its pairs -/
abbrev XD := Env → Sto → Out (List (D × D))
def xFrzD (m : XD) : XE := fun σ st => (m σ st).bind fun ds st1 => .ok (.dct ds) st1
def xLiveD (m : XD) : XE := fun σ st => (m σ st).bind fun ds st1 => .ok (.loc st1.length) (st1 ++ [.dct ds])
def xFz (m : XE) : XE := fun σ st => (m σ st).bind fun d st1 => match fz st1 d with
  | some (d', st2) => .ok d' st2
  | none => .bad
def truth (st : Sto) : D → Option Bool
  | .non => some false
  | .bl b => some b
  | .int i => some (decide (i ≠ 0))
  | .str s => if s.length ≤ szL then some (!s.isEmpty) else none
  | .tup xs => some (!xs.isEmpty)
  | d => match lstOf st d with
    | some xs => some (!xs.isEmpty)
    | none => none
/-- a value as a test -/
def tV (m : XE) : XT := fun σ st => (m σ st).bind fun d st1 => ofOpt (truth st1 d) st1
def tAnd (a b : XT) : XT := fun σ st => (a σ st).bind fun c st1 => if c then b σ st1 else .ok false st1
def tOr (a b : XT) : XT := fun σ st => (a σ st).bind fun c st1 => if c then .ok true st1 else b σ st1
def tNot (a : XT) : XT := fun σ st => (a σ st).bind fun c st1 => .ok (!c) st1
def xAnd (a b : XE) : XE := fun σ st => (a σ st).bind fun x st1 => (ofOpt (truth st1 x) st1).bind fun c st2 => if c then b σ st2 else .ok x st2
def xOr (a b : XE) : XE := fun σ st => (a σ st).bind fun x st1 => (ofOpt (truth st1 x) st1).bind fun c st2 => if c then .ok x st2 else b σ st2
def xNot (a : XE) : XE := fun σ st => (a σ st).bind fun x st1 => (ofOpt (truth st1 x) st1).bind fun c st2 => .ok (.bl (!c)) st2
def xIf (t : XT) (a b : XE) : XE := fun σ st => (t σ st).bind fun c st1 => if c then a σ st1 else b σ st1
/-- a < b < c -/
def xChain (g g' : Sto → D → D → Option D) (ma mb mc : XE) : XE := fun σ st => (ma σ st).bind fun a st1 => (mb σ st1).bind fun b st2 => (ofOpt (g st2 a b) st2).bind fun r st3 => match r with
  | .bl true => (mc σ st3).bind fun c st4 => ofOpt (g' st4 b c) st4
  | .bl false => .ok (.bl false) st3
  | _ => .bad
/-- a call of a def that may change live cells -/
def trunc (n : Nat) (o : Out D) : Out D := match o with
  | .ok d st => if d.under n && cellsUnder n (st.take n) then .ok d (st.take n) else .ok d st
  | .exc e st => if underF n e.fs && cellsUnder n (st.take n) then .exc e (st.take n) else .exc e st
  | .bad => .bad
def xCall (np : Nat) (g : Fn) (ma : XA) : XE := fun σ st => (ma σ st).bind fun ds st1 => if ds.length = np then trunc st1.length (g ds st1) else .bad
/-- a call of a def upon frozen values: it runs on a store of its own, what it tells is frozen -/
def runP (g : Fn) (ds : List D) (st : Sto) : Out D := match g ds [] with
  | .ok d s => match fz s d with
    | some (d', _) => if d'.pure then .ok d' st else .bad
    | none => .bad
  | .exc e _ => if pureF e.fs then .exc e st else .bad
  | .bad => .bad
def xCallP (np : Nat) (g : Fn) (ma : XA) : XE := fun σ st => (ma σ st).bind fun ds st1 => if ds.length = np ∧ pureL ds = true then runP g ds st1 else .bad
/-- a built-in that makes no list -/
def xB (g : Sto → List D → Option D) (ma : XA) : XE := fun σ st => (ma σ st).bind fun ds st1 => ofOpt (g st1 ds) st1
/-- a built-in that makes a list -/
def xBL (g : Sto → List D → Option (List D)) (ma : XA) : XL := fun σ st => (ma σ st).bind fun ds st1 => ofOpt (g st1 ds) st1
def xBD (g : Sto → List D → Option (List (D × D))) (ma : XA) : XD := fun σ st => (ma σ st).bind fun ds st1 => ofOpt (g st1 ds) st1
def sIx (n d : Nat) : Option Int → Nat
  | none => d
  | some v => if v < 0 then (v + (n : Int)).toNat else min v.toNat n
def cutL {α : Type} (xs : List α) (lo hi : Option Int) : List α := (xs.drop (sIx xs.length 0 lo)).take (sIx xs.length xs.length hi - sIx xs.length 0 lo)
def ixN (n : Nat) (i : Int) : Option Nat := if 0 ≤ i then (if i < n then some i.toNat else none) else if -(n : Int) ≤ i then some (i + n).toNat else none
def atI {α : Type} (xs : List α) (i : Int) : Option α := (ixN xs.length i).bind fun j => xs[j]?
abbrev XO := Env → Sto → Out (Option Int)
def oNone : XO := fun _ st => .ok none st
def oSome (m : XE) : XO := fun σ st => (m σ st).bind fun d st1 => match d with
  | .int i => .ok (some i) st1
  | _ => .bad
/-- o[a:b] of a tuple or a text; of a list, frozen -/
def vSl (st : Sto) (o : D) (l h : Option Int) : Option D := match o with
  | .tup xs => some (.tup (cutL xs l h))
  | .str s => if s.length ≤ szL then some (.str (cutL s l h)) else none
  | .scr xs => some (.lst (cutL xs l h))
  | _ => (lstOf st o).map fun xs => .lst (cutL xs l h)
def xSl (mo : XE) (ml mh : XO) : XE := fun σ st => (mo σ st).bind fun o st1 => (ml σ st1).bind fun l st2 => (mh σ st2).bind fun h st3 => ofOpt (vSl st3 o l h) st3
/-- o[i], also of a dict -/
def vIx (st : Sto) (o i : D) : Option D := match dctOf st o with
  | some kvs => if keysFit kvs i then getK kvs i else none
  | none => match i with
    | .int k => match o with
      | .str s => if s.length ≤ szL then (atI s k).map fun c => .str [c] else none
      | _ => match seqOf st o with
        | some xs => atI xs k
        | none => none
    | _ => none
def big : Int := 18446744073709551616
def vAdd (_ : Sto) (a b : D) : Option D := match a, b with
  | .int i, .int j => some (.int (i + j))
  | .int i, .bl k => some (.int (i + if k then 1 else 0))
  | .str x, .str y => if x.length + y.length ≤ szL then some (.str (x ++ y)) else none
  | .tup x, .tup y => if x.length + y.length ≤ szL then some (.tup (x ++ y)) else none
  | _, _ => none
def vSub (_ : Sto) (a b : D) : Option D := match a, b with
  | .int i, .int j => some (.int (i - j))
  | _, _ => none
def vMul (_ : Sto) (a b : D) : Option D := match a, b with
  | .int i, .int j => if (-big < i ∧ i < big) ∨ (-big < j ∧ j < big) then some (.int (i * j)) else none
  | _, _ => none
def vMod (_ : Sto) (a b : D) : Option D := match a, b with
  | .int i, .int j => if 0 < j then some (.int (i % j)) else none
  | _, _ => none
def vDiv (_ : Sto) (a b : D) : Option D := match a, b with
  | .int i, .int j => if 0 < j ∧ j < 1073741824 then some (.int (i / j)) else none
  | _, _ => none
def vPow (_ : Sto) (a b : D) : Option D := match a, b with
  | .int i, .int j => if 0 ≤ j ∧ j ≤ 1000000 ∧ -big < i ∧ i < big then some (.int (i ^ j.toNat)) else none
  | _, _ => none
def vNeg (_ : Sto) (a : D) : Option D := match a with
  | .int i => some (.int (-i))
  | _ => none
/-- a new list: xs + ys of two lists, xs * k -/
def lCat (st : Sto) (a b : D) : Option (List D) := match lstOf st a, lstOf st b with
  | some x, some y => if x.length + y.length ≤ szL then some (x ++ y) else none
  | _, _ => none
def xOpL (g : Sto → D → D → Option (List D)) (ma mb : XE) : XL := fun σ st => (ma σ st).bind fun a st1 => (mb σ st1).bind fun b st2 => ofOpt (g st2 a b) st2
mutual
def D.flat : Nat → D → Bool
  | _, .non => true
  | _, .bl _ => true
  | _, .int _ => true
  | _, .str s => s.all fun c => decide (c < 1114112)
  | n + 1, .tup xs => flatL n xs
  | n + 1, .lst xs => flatL n xs
  | _, _ => false
def flatL : Nat → List D → Bool
  | _, [] => true
  | n, x :: xs => x.flat n && flatL n xs
end
def b2i (b : Bool) : Int := if b then 1 else 0
mutual
def D.eqv : D → D → Bool
  | .non, .non => true
  | .bl a, .bl b => a == b
  | .bl a, .int i => decide (b2i a = i)
  | .int i, .bl b => decide (i = b2i b)
  | .int i, .int j => decide (i = j)
  | .str a, .str b => decide (a = b)
  | .tup a, .tup b => eqvL a b
  | .lst a, .lst b => eqvL a b
  | _, _ => false
def eqvL : List D → List D → Bool
  | [], [] => true
  | x :: xs, y :: ys => x.eqv y && eqvL xs ys
  | _, _ => false
end
/-- a live list as it stands -/
def topOf (st : Sto) (d : D) : D := match d with
  | .loc l => match st[l]? with
    | some (.lst xs) => .lst xs
    | _ => d
  | _ => d
def vEq (st : Sto) (a b : D) : Option D := if (topOf st a).flat 60 && (topOf st b).flat 60 then some (.bl ((topOf st a).eqv (topOf st b))) else none
def vNe (st : Sto) (a b : D) : Option D := if (topOf st a).flat 60 && (topOf st b).flat 60 then some (.bl (!(topOf st a).eqv (topOf st b))) else none
/-- a is b, b a flag: of a flag (a non-flag: see the rule's limits) -/
def vIsB (_ : Sto) (a b : D) : Option D := match a, b with
  | .bl x, .bl y => some (.bl (x == y))
  | _, _ => none
/-- signs, signs within tuples: what has an order -/
def ltS : List Nat → List Nat → Bool
  | [], [] => false
  | [], _ :: _ => true
  | _ :: _, [] => false
  | x :: xs, y :: ys => if x = y then ltS xs ys else decide (x < y)
mutual
/-- numbers and texts and tuples of these of one shape -/
def D.ord : Nat → D → D → Bool
  | _, .int _, .int _ => true
  | _, .str _, .str _ => true
  | n + 1, .tup a, .tup b => ordL n a b
  | n + 1, .lst a, .lst b => ordL n a b
  | _, _, _ => false
def ordL : Nat → List D → List D → Bool
  | n, x :: xs, y :: ys => x.ord n y && ordL n xs ys
  | _, _, _ => true
end
mutual
def D.lt : D → D → Bool
  | .int a, .int b => decide (a < b)
  | .str a, .str b => ltS a b
  | .tup a, .tup b => ltL a b
  | .lst a, .lst b => ltL a b
  | _, _ => false
def ltL : List D → List D → Bool
  | x :: xs, y :: ys => if x = y then ltL xs ys else x.lt y
  | [], _ :: _ => true
  | _, [] => false
end
def vLt (_ : Sto) (a b : D) : Option D := if a.flat 20 && b.flat 20 && a.ord 20 b then some (.bl (a.lt b)) else none
def vGt (_ : Sto) (a b : D) : Option D := match a, b with
  | .int i, .int j => some (.bl (decide (j < i)))
  | _, _ => none
def vLe (_ : Sto) (a b : D) : Option D := match a, b with
  | .int i, .int j => some (.bl (decide (i ≤ j)))
  | _, _ => none
def vGe (_ : Sto) (a b : D) : Option D := match a, b with
  | .int i, .int j => some (.bl (decide (j ≤ i)))
  | _, _ => none
def memD (x : D) (xs : List D) : Bool := xs.any fun y => y.eqv x
/-- x in o: a dict, a list, a tuple; one sign in a text -/
def inB (st : Sto) (x o : D) : Option Bool := match dctOf st o with
  | some kvs => if keysFit kvs x then some (getK kvs x).isSome else none
  | none => match o with
    | .str s => match x with
      | .str [c] => some (decide (c ∈ s))
      | _ => none
    | _ => match seqOf st o with
      | some xs => if x.flat 50 && flatL 50 xs then some (memD x xs) else none
      | none => none
def vIn (st : Sto) (x o : D) : Option D := (inB st x o).map .bl
def vNotIn (st : Sto) (x o : D) : Option D := (inB st x o).map fun b => .bl (!b)
inductive Ty where
  | int | bool | str | tuple | list | dict | cls (c : Nat)
/-- a value's kind: a built-in one, an own class -/
inductive Kd where
  | non | bl | int | str | tup | lst | dct | own (c : Nat)
def kdOf (st : Sto) : D → Option Kd
  | .non => some .non
  | .bl _ => some .bl
  | .int _ => some .int
  | .str _ => some .str
  | .tup _ => some .tup
  | .lst _ => some .lst
  | .dct _ => some .dct
  | .ins c _ => some (.own c)
  | .loc l => match st[l]? with
    | some (.lst _) => some .lst
    | some (.dct _) => some .dct
    | some (.ins c _) => some (.own c)
    | _ => none
  | _ => none
def Kd.isT : Kd → Ty → Bool
  | .int, .int => true
  | .bl, .int => true
  | .bl, .bool => true
  | .str, .str => true
  | .tup, .tuple => true
  | .lst, .list => true
  | .dct, .dict => true
  | .own c, .cls c' => decide (c = c')
  | _, _ => false
def Kd.okIn (cs : List Nat) : Kd → Bool
  | .own c => cs.contains c
  | _ => true
/-- isinstance(d, ts): d an instance of the classes cs, or of a built-in type -/
def vIsT (cs : List Nat) (ts : List Ty) (st : Sto) (a : D) : Option D := match kdOf st a with
  | some k => if k.okIn cs then some (.bl (ts.any k.isT)) else none
  | none => none
def vLen (st : Sto) (ds : List D) : Option D := match ds with
  | [.str s] => if s.length ≤ szL then some (.int s.length) else none
  | [d] => match dctOf st d with
    | some kvs => some (.int kvs.length)
    | none => (seqOf st d).map fun xs => .int xs.length
  | _ => none
def vAbs (_ : Sto) (ds : List D) : Option D := match ds with
  | [.int i] => some (.int (if i < 0 then -i else i))
  | _ => none
def vInt (_ : Sto) (ds : List D) : Option D := match ds with
  | [.int i] => some (.int i)
  | [.bl b] => some (.int (if b then 1 else 0))
  | _ => none
def intsOf : List D → Option (List Int)
  | [] => some []
  | .int i :: r => (intsOf r).map (i :: ·)
  | _ :: _ => none
def blsOf : List D → Option (List Bool)
  | [] => some []
  | .bl i :: r => (blsOf r).map (i :: ·)
  | _ :: _ => none
def vSum (st : Sto) (ds : List D) : Option D := match ds with
  | [d] => ((lstOf st d).bind intsOf).map fun ns => .int ns.sum
  | _ => none
def vAll (st : Sto) (ds : List D) : Option D := match ds with
  | [d] => ((lstOf st d).bind blsOf).map fun ns => .bl (ns.all id)
  | _ => none
/-- tuple(x) of a list, a tuple -/
def vTuple (st : Sto) (ds : List D) : Option D := match ds with
  | [d] => (seqOf st d).map .tup
  | _ => none
/-- the numbers lo, lo + 1, .. -/
def rng (lo : Int) (n : Nat) : List D := (List.range n).map fun (i : Nat) => .int (lo + (i : Int))
/-- the ends of range(j), range(i, j) where a list is made of it -/
def xRg1 (m : XE) : Env → Sto → Out (Int × Int) := fun σ st => (m σ st).bind fun d st1 => match d with
  | .int j => if -4611686018427387904 ≤ j ∧ j ≤ szL then .ok (0, j) st1 else .bad
  | _ => .bad
def xRgL (m : Env → Sto → Out (Int × Int)) : XL := fun σ st => (m σ st).bind fun p st1 => .ok (rng p.1 (p.2 - p.1).toNat) st1
/-- items that have an order, all with all -/
def D.isIntD : D → Bool
  | .int _ => true
  | _ => false
def D.isStrD : D → Bool
  | .str _ => true
  | _ => false
/-- a tuple that is not empty -/
def D.isTupN : D → Bool
  | .tup (_ :: _) => true
  | _ => false
def sortable (xs : List D) : Bool := (xs.all fun x => x.flat 20) && (xs.all fun x => xs.all fun y => x.ord 20 y) && (xs.all D.isIntD || xs.all D.isStrD || xs.all D.isTupN)
def sortD (xs : List D) : List D := xs.mergeSort fun a b => !b.lt a
def lSorted (st : Sto) (ds : List D) : Option (List D) := match ds with
  | [d] => match dctOf st d with
    | some _ => none
    | none => (seqOf st d).bind fun xs => if sortable xs = true ∧ xs.length ≤ szL then some (sortD xs) else none
  | _ => none
def sNext : XS := fun σ st => .nx σ st
def sSeq (a b : XS) : XS := fun σ st => match a σ st with
  | .nx σ1 st1 => b σ1 st1
  | o => o
def sDrop (m : XE) : XS := fun σ st => match m σ st with
  | .ok _ st1 => .nx σ st1
  | .exc e st1 => .exc e σ st1
  | .bad => .bad
def sRet (m : XE) : XS := fun σ st => match m σ st with
  | .ok d st1 => .rt d st1
  | .exc e st1 => .exc e σ st1
  | .bad => .bad
def sRetN : XS := fun _ st => .rt .non st
def sIf (t : XT) (a b : XS) : XS := fun σ st => match t σ st with
  | .ok c st1 => if c then a σ st1 else b σ st1
  | .exc e st1 => .exc e σ st1
  | .bad => .bad
/-- where a value goes -/
abbrev XG := D → Env → Sto → Option (Env × Sto)
def gVar (i : Nat) : XG := fun d σ st => some (setV σ i d, st)
abbrev XGs := List D → Env → Sto → Option (Env × Sto)
def gsNil : XGs := fun ds σ st => match ds with
  | [] => some (σ, st)
  | _ => none
def gsCons (g : XG) (r : XGs) : XGs := fun ds σ st => match ds with
  | [] => none
  | d :: ds => (g d σ st).bind fun p => r ds p.1 p.2
/-- (a, b, ..) = a tuple of n -/
def gTup (n : Nat) (r : XGs) : XG := fun d σ st => match seqOf st d with
  | some xs => if xs.length = n then r xs σ st else none
  | none => none
/-- o[i] = : a live list's item, a live dict's -/
def stPut (st : Sto) (o i v : D) : Option Sto := match o with
  | .loc l => match st[l]? with
    | some (.lst xs) => match i with
      | .int k => (ixN xs.length k).map fun j => st.set l (.lst (xs.set j v))
      | _ => none
    | some (.dct kvs) => if keysFit kvs i && decide (kvs.length < szL) then some (st.set l (.dct (putK kvs i v))) else none
    | _ => none
  | _ => none
def okOf {α : Type} (o : Out α) : Option (α × Sto) := match o with
  | .ok a st => some (a, st)
  | _ => none
def gSub (mo mi : XE) : XG := fun v σ st => (okOf (mo σ st)).bind fun o => (okOf (mi σ o.2)).bind fun i => (stPut i.2 o.1 i.1 v).map fun st' => (σ, st')
def sAsg (m : XE) (g : XG) : XS := fun σ st => match m σ st with
  | .ok d st1 => match g d σ st1 with
    | some (σ1, st2) => .nx σ1 st2
    | none => .bad
  | .exc e st1 => .exc e σ st1
  | .bad => .bad
/-- names = values, side by side -/
def sPar (js : List Nat) (ma : XA) : XS := fun σ st => match ma σ st with
  | .ok ds st1 => if ds.length = js.length then .nx ((js.zip ds).foldl (fun τ p => setV τ p.1 p.2) σ) st1 else .bad
  | .exc e st1 => .exc e σ st1
  | .bad => .bad
def fuel : Nat := 1099511627776
/-- what is walked: the items; of a live list its place, which must stand -/
structure It where
  ds : List D
  g : Option Nat
def It.okAt (it : It) (st : Sto) : Bool := match it.g with
  | none => true
  | some l => match st[l]? with
    | some (.lst xs) => sameL xs it.ds
    | _ => false
abbrev XI := Env → Sto → Out It
/-- a list, a tuple, a text's signs -/
def itOf (st : Sto) (d : D) : Option It := match d with
  | .tup xs => some ⟨xs, none⟩
  | .lst xs => some ⟨xs, none⟩
  | .loc l => match st[l]? with
    | some (.lst xs) => some ⟨xs, some l⟩
    | _ => none
  | .str s => if s.length ≤ szL then some ⟨s.map fun c => .str [c], none⟩ else none
  | _ => none
def iAny (m : XE) : XI := fun σ st => (m σ st).bind fun d st1 => ofOpt (itOf st1 d) st1
def two62 : Int := 4611686018427387904
def iRange1 (ma : XA) : XI := fun σ st => (ma σ st).bind fun ds st1 => match ds with
  | [.int j] => if -two62 ≤ j ∧ j < two62 then .ok ⟨rng 0 j.toNat, none⟩ st1 else .bad
  | _ => .bad
def iRange2 (ma : XA) : XI := fun σ st => (ma σ st).bind fun ds st1 => match ds with
  | [.int i, .int j] => if -two62 ≤ i ∧ i < two62 ∧ -two62 ≤ j ∧ j < two62 then .ok ⟨rng i (j - i).toNat, none⟩ st1 else .bad
  | _ => .bad
def forL (it : It) (g : XG) (b : XS) : List D → XS
  | [] => fun σ st => if it.okAt st then .nx σ st else .bad
  | d :: r => fun σ st => if it.okAt st then match g d σ st with
      | some (σ1, st1) => match b σ1 st1 with
        | .nx σ2 st2 => forL it g b r σ2 st2
        | .ct σ2 st2 => forL it g b r σ2 st2
        | .bk σ2 st2 => .nx σ2 st2
        | o => o
      | none => .bad
    else .bad
def sFor (i : XI) (g : XG) (b : XS) : XS := fun σ st => match i σ st with
  | .ok it st1 => forL it g b it.ds σ st1
  | .exc e st1 => .exc e σ st1
  | .bad => .bad
/-- [elt for target in iter if test] -/
def compL (it : It) (g : XG) (t : XT) (e : XE) (σ : Env) : List D → Sto → List D → Out (List D)
  | [], st, acc => if it.okAt st then .ok acc st else .bad
  | d :: r, st, acc => if it.okAt st then match g d σ st with
      | some (σ1, st1) => match t σ1 st1 with
        | .ok true st2 => match e σ1 st2 with
          | .ok x st3 => if acc.length < szL then compL it g t e σ r st3 (acc ++ [x]) else .bad
          | _ => .bad
        | .ok false st2 => compL it g t e σ r st2 acc
        | _ => .bad
      | none => .bad
    else .bad
def xComp (own : List Nat) (i : XI) (g : XG) (t : XT) (e : XE) : XL := fun σ st => (i σ st).bind fun it st1 => compL it g t e (wipeV σ own) it.ds st1 []
def tTrue : XT := fun _ st => .ok true st
/-- {} ; {k: v, ..} -/
def xDNil : XD := fun _ st => .ok [] st
def Cell.isLst : Cell → Bool
  | .lst _ => true
  | _ => false
def Cell.isDct : Cell → Bool
  | .dct _ => true
  | _ => false
/-- a live cell's method: it tells an answer and the cell as it is then -/
def xM (kd : Cell → Bool) (g : Cell → List D → Sto → Option (D × Cell)) (mo : XE) (ma : XA) : XE := fun σ st => (mo σ st).bind fun o st1 => match o with
  | .loc l => match st1[l]? with
    | some c1 => if kd c1 then (ma σ st1).bind fun ds st2 => match st2[l]? with
        | some c => match g c ds st2 with
          | some (d, c') => .ok d (st2.set l c')
          | none => .bad
        | none => .bad
      else .bad
    | none => .bad
  | _ => .bad
/-- a method of a list that only reads -/
def xMR (g : Sto → List D → List D → Option D) (mo : XE) (ma : XA) : XE := fun σ st => (mo σ st).bind fun o st1 => match lstOf st1 o with
  | some _ => (ma σ st1).bind fun ds st2 => match lstOf st2 o with
    | some xs => ofOpt (g st2 xs ds) st2
    | none => .bad
  | none => .bad
/-- xs.count(x), xs.index(x) -/
def mCount (_ : Sto) (xs ds : List D) : Option D := match ds with
  | [d] => if d.flat 50 && flatL 50 xs then some (.int (xs.countP fun y => y.eqv d)) else none
  | _ => none
def idxE (d : D) : List D → Option Nat
  | [] => none
  | x :: xs => if x.eqv d then some 0 else (idxE d xs).map (· + 1)
def mIndex (_ : Sto) (xs ds : List D) : Option D := match ds with
  | [d] => if d.flat 50 && flatL 50 xs then (idxE d xs).map fun (i : Nat) => D.int (i : Int) else none
  | _ => none
def mAppend (c : Cell) (ds : List D) (_ : Sto) : Option (D × Cell) := match c, ds with
  | .lst xs, [d] => if xs.length < szL then some (.non, .lst (xs ++ [d])) else none
  | _, _ => none
def mExtend (c : Cell) (ds : List D) (st : Sto) : Option (D × Cell) := match c, ds with
  | .lst xs, [d] => match lstOf st d with
    | some ys => if xs.length + ys.length ≤ szL then some (.non, .lst (xs ++ ys)) else none
    | none => none
  | _, _ => none
/-- d.setdefault(k, v): keys numbers and texts -/
def mSetd (c : Cell) (ds : List D) (_ : Sto) : Option (D × Cell) := match c, ds with
  | .dct kvs, [k, v] => if k.isKey0 && (kvs.all fun p => p.1.isKey0) && decide (kvs.length < szL) then match getK kvs k with
      | some d => some (d, .dct kvs)
      | none => some (v, .dct (putK kvs k v))
    else none
  | _, _ => none
def startV (vs : List D) (n : Nat) : Env := vs.map some ++ List.replicate (n - vs.length) none
/-- a def with np parameters and n names -/
def mkDef (np n : Nat) (b : XS) : Fn := fun ds st => if ds.length = np then match b (startV ds n) st with
    | .nx _ st' => .ok .non st'
    | .rt d st' => .ok d st'
    | .exc e _ st' => .exc e st'
    | _ => .bad
  else .bad
def fnBad : Fn := fun _ _ => .bad
/-- a callee, on a store of its own or on this one -/
def cv (pf : Bool) (g : Fn) (ds : List D) (st : Sto) : Out D := if pf then (if pureL ds then runP g ds st else .bad) else trunc st.length (g ds st)
/-- a == b, a != b of two instances of the class c by its own == -/
def eqO (pf neg : Bool) (c : Nat) (g : Fn) (a b : D) (st : Sto) : Out D := match insOf st a, insOf st b with
  | some (c1, _), some (c2, _) => if c1 = c ∧ c2 = c then (cv pf g [a, b] st).bind fun r st3 => match r with
      | .bl x => .ok (.bl (if neg then !x else x)) st3
      | _ => .bad
    else .bad
  | _, _ => .bad
/-- raise C(..) -/
def sRaise (c : Nat) (fs : List Nat) (ma : XA) : XS := fun σ st => match ma σ st with
  | .ok ds st1 => if ds.length = fs.length then .exc ⟨c, fs.zip ds⟩ σ st1 else .bad
  | .exc e st1 => .exc e σ st1
  | .bad => .bad
/-- try: b / except one of the classes cat as i: h; the classes cs are those that may come -/
def sTry (cs : List Nat) (cat : Nat → Bool) (i : Nat) (b : XS) (h : Exn → XS) : XS := fun σ st => match b σ st with
  | .exc e σ1 st1 => if cs.contains e.c && decide (i < σ1.length) then (if cat e.c then match h e (σ1.set i none) st1 with
      | .nx σ2 st2 => .nx (σ2.set i none) st2
      | .bk σ2 st2 => .bk (σ2.set i none) st2
      | .ct σ2 st2 => .ct (σ2.set i none) st2
      | .rt d st2 => .rt d st2
      | _ => .bad
    else .exc e σ1 st1) else .bad
  | o => o
end Mi
end
section
set_option autoImplicit false
set_option linter.all false
namespace Mi
theorem ltS_irr : ∀ a : List Nat, ltS a a = false
  | [] => rfl
  | x :: xs => by simp [ltS, ltS_irr xs]
theorem ltS_tr : ∀ a b c : List Nat, ltS a b = true → ltS b c = true → ltS a c = true
  | [], _, [], _, h => by cases ‹List Nat› <;> simp [ltS] at h
  | [], _, _ :: _, _, _ => by simp [ltS]
  | _ :: _, [], _, h, _ => by simp [ltS] at h
  | _ :: _, _ :: _, [], _, h => by simp [ltS] at h
  | x :: xs, y :: ys, z :: zs, h1, h2 => by
    simp only [ltS] at h1 h2 ⊢
    by_cases e1 : x = y
    · subst e1
      rw [if_pos rfl] at h1
      by_cases e2 : x = z
      · subst e2; rw [if_pos rfl] at h2 ⊢; exact ltS_tr xs ys zs h1 h2
      · rw [if_neg e2] at h2 ⊢; exact h2
    · rw [if_neg e1] at h1
      have h1' := of_decide_eq_true h1
      by_cases e2 : y = z
      · subst e2; rw [if_neg e1]; exact h1
      · rw [if_neg e2] at h2
        have h2' := of_decide_eq_true h2
        have : x ≠ z := by omega
        rw [if_neg this]
        exact decide_eq_true (by omega)
theorem ltS_tot : ∀ a b : List Nat, ltS a b = false → ltS b a = false → a = b
  | [], [], _, _ => rfl
  | [], _ :: _, h, _ => by simp [ltS] at h
  | _ :: _, [], _, h => by simp [ltS] at h
  | x :: xs, y :: ys, h1, h2 => by
    simp only [ltS] at h1 h2
    by_cases e : x = y
    · subst e
      rw [if_pos rfl] at h1 h2
      rw [ltS_tot xs ys h1 h2]
    · rw [if_neg e] at h1
      rw [if_neg (Ne.symm e)] at h2
      have := of_decide_eq_false h1
      have := of_decide_eq_false h2
      omega
mutual
theorem lt_irr : ∀ a : D, a.lt a = false
  | .int a => by simp [D.lt]
  | .str a => by simp [D.lt, ltS_irr]
  | .tup a => by simp [D.lt, ltL_irr a]
  | .non => by simp [D.lt]
  | .bl _ => by simp [D.lt]
  | .lst a => by simp [D.lt, ltL_irr a]
  | .dct _ => by simp [D.lt]
  | .ins _ _ => by simp [D.lt]
  | .loc _ => by simp [D.lt]
  | .scr _ => by simp [D.lt]
  | .exn => by simp [D.lt]
theorem ltL_irr : ∀ a : List D, ltL a a = false
  | [] => by simp [ltL]
  | x :: xs => by simp [ltL, ltL_irr xs]
end
mutual
theorem lt_tr : ∀ a b c : D, a.lt b = true → b.lt c = true → a.lt c = true
  | .int a, b, c, h1, h2 => by
    cases b <;> simp [D.lt] at h1
    cases c <;> simp [D.lt] at h2 ⊢
    omega
  | .str a, b, c, h1, h2 => by
    cases b <;> simp [D.lt] at h1
    cases c <;> simp [D.lt] at h2 ⊢
    exact ltS_tr _ _ _ h1 h2
  | .tup a, b, c, h1, h2 => by
    cases b <;> simp [D.lt] at h1
    cases c <;> simp [D.lt] at h2 ⊢
    exact ltL_tr _ _ _ h1 h2
  | .non, b, _, h, _ => by cases b <;> simp [D.lt] at h
  | .bl _, b, _, h, _ => by cases b <;> simp [D.lt] at h
  | .lst a, b, c, h1, h2 => by
    cases b <;> simp [D.lt] at h1
    cases c <;> simp [D.lt] at h2 ⊢
    exact ltL_tr _ _ _ h1 h2
  | .dct _, b, _, h, _ => by cases b <;> simp [D.lt] at h
  | .ins _ _, b, _, h, _ => by cases b <;> simp [D.lt] at h
  | .loc _, b, _, h, _ => by cases b <;> simp [D.lt] at h
  | .scr _, b, _, h, _ => by cases b <;> simp [D.lt] at h
  | .exn, b, _, h, _ => by cases b <;> simp [D.lt] at h
theorem ltL_tr : ∀ a b c : List D, ltL a b = true → ltL b c = true → ltL a c = true
  | [], b, [], _, h => by cases b <;> simp [ltL] at h
  | [], _, _ :: _, _, _ => by simp [ltL]
  | _ :: _, [], _, h, _ => by simp [ltL] at h
  | _ :: _, _ :: _, [], _, h => by simp [ltL] at h
  | x :: xs, y :: ys, z :: zs, h1, h2 => by
    simp only [ltL] at h1 h2 ⊢
    by_cases e1 : x = y
    · subst e1
      rw [if_pos rfl] at h1
      by_cases e2 : x = z
      · subst e2; rw [if_pos rfl] at h2 ⊢; exact ltL_tr xs ys zs h1 h2
      · rw [if_neg e2] at h2 ⊢; exact h2
    · rw [if_neg e1] at h1
      by_cases e2 : y = z
      · subst e2; rw [if_neg e1]; exact h1
      · rw [if_neg e2] at h2
        have h3 := lt_tr x y z h1 h2
        have : x ≠ z := fun e => by subst e; rw [lt_irr] at h3; cases h3
        rw [if_neg this]; exact h3
end
mutual
theorem lt_tot : ∀ (n : Nat) (a b : D), a.ord n b = true → a.lt b = false → b.lt a = false → a = b
  | n, .int a, b, h, h1, h2 => by
    cases b <;> simp [D.ord] at h
    simp [D.lt] at h1 h2
    congr 1; omega
  | n, .str a, b, h, h1, h2 => by
    cases b <;> simp [D.ord] at h
    simp [D.lt] at h1 h2
    rw [ltS_tot _ _ h1 h2]
  | 0, .tup a, b, h, h1, h2 => by cases b <;> simp [D.ord] at h
  | n + 1, .tup a, b, h, h1, h2 => by
    cases b <;> simp [D.ord] at h
    simp [D.lt] at h1 h2
    rw [ltL_tot n _ _ h h1 h2]
  | n, .non, b, h, _, _ => by cases b <;> simp [D.ord] at h
  | n, .bl _, b, h, _, _ => by cases b <;> simp [D.ord] at h
  | 0, .lst a, b, h, h1, h2 => by cases b <;> simp [D.ord] at h
  | n + 1, .lst a, b, h, h1, h2 => by
    cases b <;> simp [D.ord] at h
    simp [D.lt] at h1 h2
    rw [ltL_tot n _ _ h h1 h2]
  | n, .dct _, b, h, _, _ => by cases b <;> simp [D.ord] at h
  | n, .ins _ _, b, h, _, _ => by cases b <;> simp [D.ord] at h
  | n, .loc _, b, h, _, _ => by cases b <;> simp [D.ord] at h
  | n, .scr _, b, h, _, _ => by cases b <;> simp [D.ord] at h
  | n, .exn, b, h, _, _ => by cases b <;> simp [D.ord] at h
theorem ltL_tot : ∀ (n : Nat) (a b : List D), ordL n a b = true → ltL a b = false → ltL b a = false → a = b
  | n, [], [], _, _, _ => rfl
  | n, [], _ :: _, _, h, _ => by simp [ltL] at h
  | n, _ :: _, [], _, _, h => by simp [ltL] at h
  | n, x :: xs, y :: ys, h, h1, h2 => by
    have h' : x.ord n y = true ∧ ordL n xs ys = true := by simpa [ordL] using h
    simp only [ltL] at h1 h2
    by_cases e : x = y
    · subst e
      rw [if_pos rfl] at h1 h2
      rw [ltL_tot n xs ys h'.2 h1 h2]
    · rw [if_neg e] at h1
      rw [if_neg (Ne.symm e)] at h2
      exact absurd (lt_tot n x y h'.1 h1 h2) e
end
/-- none of a list stands ahead of a lesser one -/
abbrev SrtD (xs : List D) : Prop := xs.Pairwise fun x y => y.lt x = false
/-- any two of a list have an order -/
abbrev OrdAll (xs : List D) : Prop := ∀ x ∈ xs, ∀ y ∈ xs, x.ord 20 y = true
theorem sortable_ord {xs : List D} (h : sortable xs = true) : OrdAll xs := by
  unfold sortable at h
  simp only [Bool.and_eq_true, List.all_eq_true] at h
  exact fun x hx y hy => h.1.2 x hx y hy
theorem sortable_flat {xs : List D} (h : sortable xs = true) : ∀ x ∈ xs, x.flat 20 = true := by
  unfold sortable at h
  simp only [Bool.and_eq_true, List.all_eq_true] at h
  exact h.1.1
theorem srt_one : ∀ {xs ys : List D}, OrdAll xs → xs.Perm ys → SrtD xs → SrtD ys → xs = ys
  | [], ys, _, p, _, _ => by simpa using p.symm
  | x :: xs, [], _, p, _, _ => by have := p.length_eq; simp at this
  | x :: xs, y :: ys, o, p, s1, s2 => by
    have s1' := List.pairwise_cons.mp s1
    have s2' := List.pairwise_cons.mp s2
    have hx : x ∈ y :: ys := p.mem_iff.mp List.mem_cons_self
    have hy : y ∈ x :: xs := p.mem_iff.mpr List.mem_cons_self
    have e : x = y := by
      rcases List.mem_cons.mp hx with e | hx
      · exact e
      rcases List.mem_cons.mp hy with e | hy'
      · exact e.symm
      exact lt_tot 20 x y (o x List.mem_cons_self y hy) (s2'.1 x hx) (s1'.1 y hy')
    subst e
    have p' : xs.Perm ys := List.Perm.cons_inv p
    rw [srt_one (fun a ha b hb => o a (List.mem_cons_of_mem _ ha) b (List.mem_cons_of_mem _ hb)) p' s1'.2 s2'.2]
theorem sortD_perm (xs : List D) : (sortD xs).Perm xs := List.mergeSort_perm _ _
theorem sortD_srt {xs : List D} (o : OrdAll xs) : SrtD (sortD xs) := by
  unfold sortD
  -- the order upon what is in xs: through its places
  let le : D → D → Bool := fun a b => !b.lt a
  have key : ∀ l : List D, (∀ x ∈ l, x ∈ xs) → SrtD (l.mergeSort le) := by
    intro l hl
    have h1 : ∀ a b c : {x // x ∈ xs}, le a.1 b.1 = true → le b.1 c.1 = true → le a.1 c.1 = true := by
      intro a b c h1 h2
      simp only [le, Bool.not_eq_true'] at h1 h2 ⊢
      cases h3 : c.1.lt a.1 with
      | false => rfl
      | true =>
        by_cases e : a.1.lt b.1 = true
        · have := lt_tr _ _ _ h3 e
          rw [this] at h2; cases h2
        · have e' : a.1.lt b.1 = false := by simpa using e
          have := lt_tot 20 a.1 b.1 (o _ a.2 _ b.2) e' h1
          rw [this] at h3
          rw [h3] at h2; cases h2
    have h2 : ∀ a b : {x // x ∈ xs}, (le a.1 b.1 || le b.1 a.1) = true := by
      intro a b
      simp only [le]
      cases h3 : b.1.lt a.1 with
      | false => rfl
      | true =>
        cases h4 : a.1.lt b.1 with
        | false => rfl
        | true =>
          have := lt_tr _ _ _ h3 h4
          rw [lt_irr] at this; cases this
    have h3 := List.pairwise_mergeSort (le := fun (a b : {x // x ∈ xs}) => le a.1 b.1) h1 h2 (l.attachWith (· ∈ xs) hl)
    have h4 : ((l.attachWith (· ∈ xs) hl).mergeSort fun (a b : {x // x ∈ xs}) => le a.1 b.1).map (·.1) = l.mergeSort le := by
      rw [List.map_mergeSort (r := fun (a b : {x // x ∈ xs}) => le a.1 b.1) (s := le) (fun _ _ _ _ => rfl)]
      simp
    rw [← h4]
    refine List.pairwise_map.mpr (h3.imp fun {a b} q => ?_)
    simpa [le] using q
  exact key xs fun x h => h
theorem sortD_eq {xs ys : List D} (o : OrdAll xs) (p : ys.Perm xs) (s : SrtD ys) : ys = sortD xs :=
  srt_one (fun a ha b hb => o a (p.mem_iff.mp ha) b (p.mem_iff.mp hb)) (p.trans (sortD_perm xs).symm) s (sortD_srt o)
end Mi
end
section
set_option Elab.async false
set_option linter.all false
set_option maxRecDepth 100000
set_option autoImplicit false
namespace Mi
open PySem L2
structure Wd where
  fb : List Addr
  rho : List Addr
def LivO (W : Wd) (st : Sto) (a : Addr) : Prop := ∃ (l : Nat) (c : Cell), W.rho[l]? = some a ∧ st[l]? = some c ∧ c ≠ Cell.dead
def Liv (W : Wd) (st : Sto) (a : Addr) : Prop := a ∈ W.fb ∨ LivO W st a
/-- a dict -/
def Dk : HO → Bool
  | .dK _ => true
  | .dT _ => true
  | _ => false
/-- it stays; a dict may be locked for good -/
def Kept (H' : Hp) (a : Addr) (o : HO) : Prop := H' a = some o ∨ (Dk o = true ∧ ∃ od, H' a = some (.frz od o))
theorem Kept.no {H' : Hp} {a : Addr} {o : HO} (k : Kept H' a o) (h : Dk o = false := by rfl) : H' a = some o := k.elim id fun q => by rw [h] at q; exact absurd q.1 (by simp)
/-- what is said in one state is true in the other -/
structure To (W : Wd) (st : Sto) (H : Hp) (W' : Wd) (st' : Sto) (H' : Hp) : Prop where
  keep : ∀ a o, H a = some o → ¬ Liv W st a → (∀ ps, o ≠ .tbl ps) → Kept H' a o ∧ ¬ Liv W' st' a
  tup : ∀ a vs, H a = some (.tup vs) → H' a = some (.tup vs)
  frz : ∀ a o u, H a = some (.frz o u) → H' a = some (.frz o u)
  rho : ∀ (i : Nat) (a : Addr), W.rho[i]? = some a → W'.rho[i]? = some a
  ext : ∀ a φ, H a = some (.ext φ) → H' a = some (.ext φ)
/-- the script's list: it is never written -/
def ScrAt (W : Wd) (st : Sto) (K : PySem.W.Frag) (H : Hp) (a : Addr) (vs : List V) : Prop := (∃ o, H a = some (.frz o (.lst vs))) ∨ (H a = some (.lst vs) ∧ ¬ Liv W st a) ∨ SqL K (fun _ => none) a vs
theorem ScrAt.sql {W : Wd} {st : Sto} {K : PySem.W.Frag} {H : Hp} {a : Addr} {vs : List V} (h : ScrAt W st K H a vs) : SqL K H a vs := by
  rcases h with ⟨o, h⟩ | ⟨h, _⟩ | h
  · exact .inl (.inr ⟨o, h⟩)
  · exact .inl (.inl h)
  · rcases h with (h | ⟨o, h⟩) | h
    · cases h
    · cases h
    · exact .inr h
structure Ts where
  K : PySem.W.Frag
  ca : Nat → Addr
  an : Nat → PySem.Str
  n : Nat
  inj : ∀ i j, i < n → j < n → an i = an j → i = j
  tb : List (Addr × PySem.Str) := []
/-- a slot that holds what is no data: the object at a, P of it -/
structure Pin where
  i : Nat
  a : Addr
  P : Wd → Sto → Hp → Prop
  mono : ∀ {W W' : Wd} {st st' : Sto} {H H' : Hp}, To W st H W' st' H' → P W st H → P W' st' H'
structure Tb extends Ts where
  pin : List Pin
instance : CoeOut Tb Ts := ⟨Tb.toTs⟩
def Tb.free (T : Tb) (i : Nat) : Prop := (T.pin.all fun p => decide (p.i ≠ i)) = true
theorem Tb.free.ne {T : Tb} {i : Nat} (h : T.free i) {p : Pin} (hp : p ∈ T.pin) : p.i ≠ i := of_decide_eq_true (List.all_eq_true.mp h p hp)
def strOf (s : List Nat) : PySem.Str := ⟨s.toArray⟩
theorem strOf_inj {a b : List Nat} (h : strOf a = strOf b) : a = b := by
  have := congrArg PySem.Str.cps h
  simpa [strOf] using congrArg Array.toList this
def keyOf : D → Option Key
  | .int i => some (.inl i)
  | .str s => some (.inr (strOf s))
  | _ => none
def keysOf : List D → Option (List Key)
  | [] => some []
  | d :: r => match keyOf d, keysOf r with
    | some k, some ks => some (k :: ks)
    | _, _ => none
def keyT : D → Option (List Key)
  | .tup xs => keysOf xs
  | _ => none
/-- what is read, never written: the object u at a -/
def Fz (W : Wd) (st : Sto) (H : Hp) (a : Addr) (u : HO) : Prop := (H a = some u ∧ ¬ Liv W st a) ∨ ∃ o, H a = some (.frz o u)
/-- a frozen list -/
def Fl (W : Wd) (st : Sto) (H : Hp) (a : Addr) (u : HO) : Prop := H a = some u ∧ ¬ Liv W st a
theorem Fl.rd {W : Wd} {st : Sto} {H : Hp} {a : Addr} {u : HO} (h : Fl W st H a u) : Rd H a u := .inl h.1
theorem Fz.rd {W : Wd} {st : Sto} {H : Hp} {a : Addr} {u : HO} (h : Fz W st H a u) : Rd H a u := h.imp (·.1) id
/-- the fields told are fields that stand there; all names are known ones -/
structure SubF (T : Ts) (us vs : List (PySem.Str × V)) : Prop where
  get : ∀ s v, us.lookup s = some v → vs.lookup s = some v
  no : ∀ s, (∀ i, i < T.n → T.an i ≠ s) → vs.lookup s = none
section
variable (T : Ts) (W : Wd) (st : Sto) (H : Hp)
mutual
inductive Rep : D → V → Prop
  | non : Rep .non .non
  | bl (b : Bool) : Rep (.bl b) (.bl b)
  | int (i : Int) : Rep (.int i) (.int i)
  | str (s : List Nat) : Rep (.str s) (.str (strOf s))
  | tup {xs : List D} {a : Addr} {vs : List V} (h : H a = some (.tup vs)) (r : Reps xs vs) : Rep (.tup xs) (.ref a)
  | lst {xs : List D} {a : Addr} {vs : List V} (h : Fl W st H a (.lst vs)) (r : Reps xs vs) : Rep (.lst xs) (.ref a)
  | dK {kvs : List (D × D)} {a : Addr} {vs : List (Key × V)} (h : Fz W st H a (.dK vs)) (r : RepK kvs vs) : Rep (.dct kvs) (.ref a)
  | dT {kvs : List (D × D)} {a : Addr} {vs : List (List Key × V)} (h : Fz W st H a (.dT vs)) (r : RepT kvs vs) : Rep (.dct kvs) (.ref a)
  | ins {c : Nat} {fs : List (Nat × D)} {a dx : Addr} {vs us : List (PySem.Str × V)} (h : H a = some (.ins (T.ca c) dx vs)) (nl : ¬ Liv W st a) (sb : SubF T us vs) (r : RepF fs us) : Rep (.ins c fs) (.ref a)
  | loc {l : Nat} {a : Addr} (h : W.rho[l]? = some a) : Rep (.loc l) (.ref a)
  | scr {xs : List D} {a : Addr} {vs : List V} (h : ScrAt W st T.K H a vs) (r : Reps xs vs) : Rep (.scr xs) (.ref a)
inductive Reps : List D → List V → Prop
  | nil : Reps [] []
  | cons {d : D} {v : V} {ds : List D} {vs : List V} (h : Rep d v) (r : Reps ds vs) : Reps (d :: ds) (v :: vs)
inductive RepK : List (D × D) → List (Key × V) → Prop
  | nil : RepK [] []
  | cons {k d : D} {q : Key} {v : V} {ds : List (D × D)} {vs : List (Key × V)} (hk : keyOf k = some q) (h : Rep d v) (r : RepK ds vs) : RepK ((k, d) :: ds) ((q, v) :: vs)
inductive RepT : List (D × D) → List (List Key × V) → Prop
  | nil : RepT [] []
  | cons {k d : D} {q : List Key} {v : V} {ds : List (D × D)} {vs : List (List Key × V)} (hk : keyT k = some q) (h : Rep d v) (r : RepT ds vs) : RepT ((k, d) :: ds) ((q, v) :: vs)
inductive RepF : List (Nat × D) → List (PySem.Str × V) → Prop
  | nil : RepF [] []
  | cons {i : Nat} {d : D} {v : V} {ds : List (Nat × D)} {vs : List (PySem.Str × V)} (hi : i < T.n) (h : Rep d v) (r : RepF ds vs) : RepF ((i, d) :: ds) ((T.an i, v) :: vs)
end
/-- what a live cell is in the heap -/
def CellOk : Cell → Addr → Prop
  | .lst xs, a => ∃ vs, H a = some (.lst vs) ∧ Reps T W st H xs vs
  | .dct kvs, a => (∃ vs, H a = some (.dK vs) ∧ RepK T W st H kvs vs) ∨ ∃ vs, H a = some (.dT vs) ∧ RepT T W st H kvs vs
  | .ins c fs, a => ∃ dx vs, H a = some (.ins (T.ca c) dx vs) ∧ RepF T W st H fs vs
  | .dead, _ => True
structure Abs : Prop where
  len : W.rho.length = st.length
  cell : ∀ (l : Nat) (c : Cell) (a : Addr), st[l]? = some c → W.rho[l]? = some a → CellOk T W st H c a
  one : ∀ (l l' : Nat) (a : Addr) (c c' : Cell), W.rho[l]? = some a → W.rho[l']? = some a → st[l]? = some c → st[l']? = some c' → c ≠ .dead → c' ≠ .dead → l = l'
  out : ∀ a, LivO W st a → a ∉ W.fb
  fbt : ∀ a ∈ W.fb, ∃ o, H a = some o ∧ ∀ ps, o ≠ .tbl ps
  tabs : LamX.Tabs T.tb H
/-- an own error that flies -/
def ExR (e : Exn) (cls : Value) (dd : Option Addr) : Prop :=
  cls = .ref (T.ca e.c) ∧ ((e.fs = [] ∧ dd = none) ∨ e.fs ≠ [] ∧ ∃ x vs, dd = some x ∧ H x = some (.xd vs) ∧ ¬ Liv W st x ∧ RepF T W st H e.fs vs)
end
/-- nothing stands there, or a table -/
def Nobj (H : Hp) (a : Addr) : Prop := ∀ o, H a = some o → ∃ ps, o = .tbl ps
theorem Nobj.of {H : Hp} {a : Addr} (h : H a = none) : Nobj H a := fun o e => by rw [h] at e; cases e
theorem Nobj.no {H : Hp} {a : Addr} {o : HO} {C : Prop} (n : Nobj H a) (h : H a = some o) (t : ∀ ps, o ≠ .tbl ps) : C := let ⟨ps, e⟩ := n o h; absurd e (t ps)
theorem tabs_new {tb : List (Addr × PySem.Str)} {H : Hp} {a : Addr} {o : HO} (t : LamX.Tabs tb H) (h : H a = none) : LamX.Tabs tb (upd H a o) :=
  t.ext fun _ _ e => by rw [upd_ne (ne_of_none e h)]; exact e
theorem tabs_wr {tb : List (Addr × PySem.Str)} {H : Hp} {a : Addr} {o o' : HO} (t : LamX.Tabs tb H) (h : H a = some o) (n : ∀ ps, o ≠ .tbl ps) (x : ∀ φ, o ≠ .ext φ) : LamX.Tabs tb (upd H a o') := fun p hp => by
  obtain ⟨ps, h1, h2, h3⟩ := t p hp
  have ne : ∀ {b : Addr} {u : HO}, H b = some u → u ≠ o → b ≠ a := fun {b u} e z q => z (by rw [q, h] at e; exact (Option.some.inj e).symm)
  refine ⟨ps, by rw [upd_ne (ne h1 fun z => n ps z.symm)]; exact h1, h2, fun pos cv hc => ?_⟩
  obtain ⟨c, e1, e2⟩ := h3 pos cv hc
  exact ⟨c, e1, by rw [upd_ne (ne e2 fun z => x _ z.symm)]; exact e2⟩
structure Grow (W : Wd) (st : Sto) (H : Hp) (W' : Wd) (st' : Sto) (H' : Hp) : Prop where
  fbs : ∀ a ∈ W.fb, a ∈ W'.fb
  fbn : ∀ a ∈ W'.fb, a ∈ W.fb ∨ Nobj H a
  rho : W.rho <+: W'.rho
  keep : ∀ a o, H a = some o → ¬ LivO W st a → (∀ ps, o ≠ .tbl ps) → H' a = some o ∨ (Dk o = true ∧ a ∉ W.fb ∧ ∃ od, H' a = some (.frz od o))
  new : ∀ a, LivO W' st' a → LivO W st a ∨ Nobj H a
  still : ∀ a o, H a = some o → (∀ ps, o ≠ .tbl ps) → ∃ o', H' a = some o' ∧ ∀ ps, o' ≠ .tbl ps
theorem Grow.refl (W : Wd) (st : Sto) (H : Hp) : Grow W st H W st H := ⟨fun _ h => h, fun _ h => .inl h, List.prefix_refl _, fun _ _ h _ _ => .inl h, fun _ h => .inl h, fun _ o h t => ⟨o, h, t⟩⟩
theorem Grow.noLiv {W W1 : Wd} {st st1 : Sto} {H H1 : Hp} (g : Grow W st H W1 st1 H1) {a : Addr} {o : HO} (h : H a = some o) (t : ∀ ps, o ≠ .tbl ps) (n : ¬ LivO W st a) : ¬ LivO W1 st1 a := fun z =>
  (g.new a z).elim n fun q => q.no h t
theorem Grow.noLv {W W1 : Wd} {st st1 : Sto} {H H1 : Hp} (g : Grow W st H W1 st1 H1) {a : Addr} {o : HO} (h : H a = some o) (t : ∀ ps, o ≠ .tbl ps) (n : ¬ Liv W st a) : ¬ Liv W1 st1 a := fun z => by
  rcases z with z | z
  · rcases g.fbn a z with z | z
    · exact n (.inl z)
    · exact z.no h t
  · exact g.noLiv h t (fun q => n (.inr q)) z
theorem Grow.nothing {W W1 : Wd} {st st1 : Sto} {H H1 : Hp} (g : Grow W st H W1 st1 H1) {a : Addr} (h : Nobj H1 a) : Nobj H a := fun o q => by
  by_cases t : ∃ ps, o = .tbl ps
  · exact t
  · obtain ⟨o', e, t'⟩ := g.still a o q fun ps e => t ⟨ps, e⟩
    exact h.no e t'
theorem Grow.trans {W W1 W2 : Wd} {st st1 st2 : Sto} {H H1 H2 : Hp} (a : Grow W st H W1 st1 H1) (b : Grow W1 st1 H1 W2 st2 H2) : Grow W st H W2 st2 H2 where
  fbs := fun x h => b.fbs x (a.fbs x h)
  fbn := fun x h => (b.fbn x h).elim (a.fbn x) fun q => .inr (a.nothing q)
  rho := a.rho.trans b.rho
  keep := fun x o h n t => by
    rcases a.keep x o h n t with q | ⟨hd, hf, od, q⟩
    · rcases b.keep x o q (a.noLiv h t n) t with q2 | ⟨hd, hf, od, q2⟩
      · exact .inl q2
      · exact .inr ⟨hd, fun z => hf (a.fbs x z), od, q2⟩
    · rcases b.keep x _ q (a.noLiv h t n) (fun _ z => by cases z) with q2 | ⟨hd', _⟩
      · exact .inr ⟨hd, hf, od, q2⟩
      · cases hd'
  new := fun x z => (b.new x z).elim (a.new x) fun q => .inr (a.nothing q)
  still := fun x o h t => by
    obtain ⟨o', e, t'⟩ := a.still x o h t
    exact b.still x o' e t'
section
variable {T : Ts} {W W' : Wd} {st st' : Sto} {H H' : Hp}
/-- what is live is a list, a dict, an instance -/
theorem Abs.kind (A : Abs T W st H) {a : Addr} (l : LivO W st a) : (∃ vs, H a = some (.lst vs)) ∨ (∃ vs, H a = some (.dK vs)) ∨ (∃ vs, H a = some (.dT vs)) ∨ ∃ C dx vs, H a = some (.ins C dx vs) := by
  obtain ⟨i, c, h1, h2, h3⟩ := l
  have q := A.cell i c a h2 h1
  cases c with
  | lst xs => obtain ⟨vs, e, _⟩ := q; exact .inl ⟨vs, e⟩
  | dct kvs =>
    rcases q with ⟨vs, e, _⟩ | ⟨vs, e, _⟩
    · exact .inr (.inl ⟨vs, e⟩)
    · exact .inr (.inr (.inl ⟨vs, e⟩))
  | ins c fs => obtain ⟨dx, vs, e, _⟩ := q; exact .inr (.inr (.inr ⟨_, dx, vs, e⟩))
  | dead => exact absurd rfl h3
theorem Abs.notTup (A : Abs T W st H) {a : Addr} {vs : List V} (h : H a = some (.tup vs)) : ¬ LivO W st a := fun l => by
  rcases A.kind l with ⟨_, e⟩ | ⟨_, e⟩ | ⟨_, e⟩ | ⟨_, _, _, e⟩ <;> (rw [h] at e; cases e)
theorem Abs.notFrz (A : Abs T W st H) {a : Addr} {o : Obj} {u : HO} (h : H a = some (.frz o u)) : ¬ LivO W st a := fun l => by
  rcases A.kind l with ⟨_, e⟩ | ⟨_, e⟩ | ⟨_, e⟩ | ⟨_, _, _, e⟩ <;> (rw [h] at e; cases e)
theorem Abs.notExt (A : Abs T W st H) {a : Addr} {φ : Heap → Prop} (h : H a = some (.ext φ)) : ¬ LivO W st a := fun l => by
  rcases A.kind l with ⟨_, e⟩ | ⟨_, e⟩ | ⟨_, e⟩ | ⟨_, _, _, e⟩ <;> (rw [h] at e; cases e)
theorem pre_get {l l' : List Addr} (p : l <+: l') {i : Nat} {a : Addr} (h : l[i]? = some a) : l'[i]? = some a := by
  obtain ⟨r, rfl⟩ := p
  have : i < l.length := (List.getElem?_eq_some_iff.mp h).1
  rw [List.getElem?_append_left this]; exact h
/-- no dict: it stays -/
theorem Grow.keepN (g : Grow W st H W' st' H') {a : Addr} {o : HO} (h : H a = some o) (n : ¬ LivO W st a) (t : ∀ ps, o ≠ .tbl ps) (hd : Dk o = false) : H' a = some o := (g.keep a o h n t).elim id fun q => by rw [hd] at q; exact absurd q.1 (by simp)
/-- what only the proof knows stays -/
theorem Grow.keepB (g : Grow W st H W' st' H') {a : Addr} {o : HO} (h : H a = some o) (n : ¬ LivO W st a) (t : ∀ ps, o ≠ .tbl ps) (hb : a ∈ W.fb) : H' a = some o := (g.keep a o h n t).elim id fun q => absurd hb q.2.1
theorem Grow.to (A : Abs T W st H) (g : Grow W st H W' st' H') : To W st H W' st' H' where
  keep := fun a o h n t => ⟨(g.keep a o h (fun q => n (.inr q)) t).imp id fun q => ⟨q.1, q.2.2⟩, g.noLv h t n⟩
  tup := fun a _ h => g.keepN h (A.notTup h) (fun _ z => by cases z) rfl
  frz := fun a _ _ h => g.keepN h (A.notFrz h) (fun _ z => by cases z) rfl
  rho := fun _ _ h => pre_get g.rho h
  ext := fun a _ h => g.keepN h (A.notExt h) (fun _ z => by cases z) rfl
/-- fewer are live -/
theorem To.less (h : ∀ a, Liv W' st' a → Liv W st a) (hr : ∀ (i : Nat) (a : Addr), W.rho[i]? = some a → W'.rho[i]? = some a) : To W st H W' st' H :=
  ⟨fun _ _ e n _ => ⟨.inl e, fun q => n (h _ q)⟩, fun _ _ e => e, fun _ _ _ e => e, hr, fun _ _ e => e⟩
theorem Fl.to (t : To W st H W' st' H') {a : Addr} {u : HO} (hu : ∀ ps, u ≠ .tbl ps) (h : Fl W st H a u) (hd : Dk u = false := by rfl) : Fl W' st' H' a u := ⟨(t.keep a u h.1 h.2 hu).1.no hd, (t.keep a u h.1 h.2 hu).2⟩
theorem Fz.to (t : To W st H W' st' H') {a : Addr} {u : HO} (hu : ∀ ps, u ≠ .tbl ps) (h : Fz W st H a u) : Fz W' st' H' a u := by
  rcases h with ⟨h, n⟩ | ⟨o, h⟩
  · obtain ⟨k, n'⟩ := t.keep a u h n hu
    rcases k with k | ⟨_, od, k⟩
    · exact .inl ⟨k, n'⟩
    · exact .inr ⟨od, k⟩
  · exact .inr ⟨o, t.frz a o u h⟩
theorem ScrAt.to (t : To W st H W' st' H') {K : PySem.W.Frag} {a : Addr} {vs : List V} (h : ScrAt W st K H a vs) : ScrAt W' st' K H' a vs := by
  rcases h with ⟨o, h⟩ | ⟨h, n⟩ | h
  · exact .inl ⟨o, t.frz _ _ _ h⟩
  · exact .inr (.inl ⟨(t.keep _ _ h n fun _ z => by cases z).1.no, (t.keep _ _ h n fun _ z => by cases z).2⟩)
  · exact .inr (.inr h)
mutual
theorem Rep.to (t : To W st H W' st' H') : ∀ {d : D} {v : V}, Rep T W st H d v → Rep T W' st' H' d v
  | _, _, .non => .non
  | _, _, .bl b => .bl b
  | _, _, .int i => .int i
  | _, _, .str s => .str s
  | _, _, .tup h r => .tup (t.tup _ _ h) (Reps.to t r)
  | _, _, .lst h r => .lst (Fl.to t (fun _ z => by cases z) h) (Reps.to t r)
  | _, _, .dK h r => .dK (Fz.to t (fun _ z => by cases z) h) (RepK.to t r)
  | _, _, .dT h r => .dT (Fz.to t (fun _ z => by cases z) h) (RepT.to t r)
  | _, _, .ins h nl sb r => .ins (t.keep _ _ h nl fun _ z => by cases z).1.no (t.keep _ _ h nl fun _ z => by cases z).2 sb (RepF.to t r)
  | _, _, .loc h => .loc (t.rho _ _ h)
  | _, _, .scr h r => .scr (h.to t) (Reps.to t r)
theorem Reps.to (t : To W st H W' st' H') : ∀ {ds : List D} {vs : List V}, Reps T W st H ds vs → Reps T W' st' H' ds vs
  | _, _, .nil => .nil
  | _, _, .cons h r => .cons (Rep.to t h) (Reps.to t r)
theorem RepK.to (t : To W st H W' st' H') : ∀ {ds : List (D × D)} {vs : List (Key × V)}, RepK T W st H ds vs → RepK T W' st' H' ds vs
  | _, _, .nil => .nil
  | _, _, .cons e h r => .cons e (Rep.to t h) (RepK.to t r)
theorem RepT.to (t : To W st H W' st' H') : ∀ {ds : List (D × D)} {vs : List (List Key × V)}, RepT T W st H ds vs → RepT T W' st' H' ds vs
  | _, _, .nil => .nil
  | _, _, .cons e h r => .cons e (Rep.to t h) (RepT.to t r)
theorem RepF.to (t : To W st H W' st' H') : ∀ {ds : List (Nat × D)} {vs : List (PySem.Str × V)}, RepF T W st H ds vs → RepF T W' st' H' ds vs
  | _, _, .nil => .nil
  | _, _, .cons e h r => .cons e (Rep.to t h) (RepF.to t r)
end
theorem Rep.mono (A : Abs T W st H) (g : Grow W st H W' st' H') {d : D} {v : V} (r : Rep T W st H d v) : Rep T W' st' H' d v := r.to (g.to A)
theorem Reps.mono (A : Abs T W st H) (g : Grow W st H W' st' H') {ds : List D} {vs : List V} (r : Reps T W st H ds vs) : Reps T W' st' H' ds vs := r.to (g.to A)
theorem RepF.subF : ∀ {fs : List (Nat × D)} {vs : List (PySem.Str × V)}, RepF T W st H fs vs → SubF T vs vs
  | _, _, .nil => ⟨fun _ _ h => h, fun _ _ => rfl⟩
  | _, _, .cons (i := i) hi _ r => ⟨fun _ _ h => h, fun s hs => by
    have : (s == T.an i) = false := beq_eq_false_iff_ne.mpr fun z => hs i hi z.symm
    rw [List.lookup_cons, this]
    exact (RepF.subF r).no s hs⟩
theorem Reps.length : ∀ {ds : List D} {vs : List V}, Reps T W st H ds vs → vs.length = ds.length
  | _, _, .nil => rfl
  | _, _, .cons _ r => by simp [r.length]
theorem Reps.get : ∀ {ds : List D} {vs : List V} {i : Nat} {d : D}, Reps T W st H ds vs → ds[i]? = some d → ∃ v, vs[i]? = some v ∧ Rep T W st H d v
  | _, _, _, _, .nil, e => by simp at e
  | _, _, 0, _, .cons h _, e => by simp at e; subst e; exact ⟨_, rfl, h⟩
  | _, _, i + 1, d, .cons _ r, e => by
    obtain ⟨v, a, b⟩ := r.get (i := i) (d := d) (by simpa using e)
    exact ⟨v, by simpa using a, b⟩
theorem Reps.append {ds es : List D} {vs ws : List V} : Reps T W st H ds vs → Reps T W st H es ws → Reps T W st H (ds ++ es) (vs ++ ws)
  | .nil, s => s
  | .cons h r, s => .cons h (Reps.append r s)
theorem Reps.take {ds : List D} {vs : List V} : ∀ (n : Nat), Reps T W st H ds vs → Reps T W st H (ds.take n) (vs.take n)
  | 0, _ => by simpa using Reps.nil
  | _ + 1, .nil => .nil
  | n + 1, .cons h r => .cons h (Reps.take n r)
theorem Reps.drop {ds : List D} {vs : List V} : ∀ (n : Nat), Reps T W st H ds vs → Reps T W st H (ds.drop n) (vs.drop n)
  | 0, r => r
  | _ + 1, .nil => .nil
  | n + 1, .cons _ r => Reps.drop n r
theorem Reps.set {d : D} {v : V} (h : Rep T W st H d v) : ∀ {ds : List D} {vs : List V} (i : Nat), Reps T W st H ds vs → Reps T W st H (ds.set i d) (vs.set i v)
  | _, _, _, .nil => .nil
  | _, _, 0, .cons _ r => .cons h r
  | _, _, i + 1, .cons q r => .cons q (Reps.set h i r)
theorem Reps.isEmpty {ds : List D} {vs : List V} (r : Reps T W st H ds vs) : vs.isEmpty = ds.isEmpty := by
  cases r <;> rfl
end
end Mi
end
section
set_option Elab.async false
set_option linter.all false
set_option maxRecDepth 100000
set_option autoImplicit false
namespace Mi
open PySem L2
section
variable (T : Tb)
structure SlotsOk (W : Wd) (st : Sto) (H : Hp) (σd : Env) (σ : L2.St) : Prop where
  len : σ.length = σd.length
  get : ∀ (i : Nat) (d : D), σd[i]? = some (some d) → ∃ v, σ[i]? = some (some v) ∧ Rep T W st H d v
  pin : ∀ p ∈ T.pin, σ[p.i]? = some (some (.ref p.a)) ∧ p.P W st H
/-- where one stands -/
structure At (σ : L2.St) (W : Wd) (st : Sto) (H : Hp) (σd : Env) : Prop where
  abs : Abs T W st H
  slots : SlotsOk T W st H σd σ
/-- from (W, st, H) on an outcome leads to what is wanted -/
def OutG {α β : Type} (R : Wd → Sto → Hp → α → β → Prop) (Wx : WX) (σ : L2.St) (W : Wd) (st : Sto) (H : Hp) (o : Out α) (Q : β → Hp → Prop) : Prop := match o with
  | .ok a st' => ∀ W' H' b, Grow W st H W' st' H' → Abs T W' st' H' → R W' st' H' a b → Q b H'
  | .exc e st' => ∀ W' H' cls dd, Grow W st H W' st' H' → Abs T W' st' H' → ExR T W' st' H' e cls dd → Wx cls dd σ H'
  | .bad => False
def lG {α β : Type} (R : Wd → Sto → Hp → α → β → Prop) (Wx : WX) (m : Env → Sto → Out α) (σ : L2.St) (H : Hp) (Q : β → Hp → Prop) : Prop :=
  ∃ W st σd, At T σ W st H σd ∧ OutG T R Wx σ W st H (m σd st) Q
def REq {α : Type} (_ : Wd) (_ : Sto) (_ : Hp) (a b : α) : Prop := a = b
def OutSt (Wx : WX) (E : Ends) (W : Wd) (st : Sto) (H : Hp) (o : OutS) : Prop := match o with
  | .nx σd st' => ∀ W' H' σ', Grow W st H W' st' H' → At T σ' W' st' H' σd → E.nx σ' H'
  | .rt d st' => ∀ W' H' v, Grow W st H W' st' H' → Abs T W' st' H' → Rep T W' st' H' d v → E.rt v H'
  | .bk σd st' => ∀ W' H' σ', Grow W st H W' st' H' → At T σ' W' st' H' σd → E.bk σ' H'
  | .ct σd st' => ∀ W' H' σ', Grow W st H W' st' H' → At T σ' W' st' H' σd → E.ct σ' H'
  | .exc e σd st' => ∀ W' H' σ' cls dd, Grow W st H W' st' H' → At T σ' W' st' H' σd → ExR T W' st' H' e cls dd → Wx cls dd σ' H'
  | .bad => False
def lS (Wx : WX) (m : XS) : TS := fun E σ H => ∃ W st σd, At T σ W st H σd ∧ OutSt T Wx E W st H (m σd st)
end
abbrev lE (T : Tb) (Wx : WX) (m : XE) : TE := lG T (Rep T) Wx m
abbrev lA (T : Tb) (Wx : WX) (m : XA) : TA := lG T (Reps T) Wx m
abbrev lT (T : Tb) (Wx : WX) (m : XT) : TT := lG T REq Wx m
abbrev lO (T : Tb) (Wx : WX) (m : XO) : TO := lG T REq Wx m
/-- an expression is as the combinator says -/
def ME (X : Cx) (T : Tb) (Wx : WX) (e : Expr) (m : XE) : Prop := PE X e (lE T Wx m)
def MT (X : Cx) (T : Tb) (Wx : WX) (e : Expr) (m : XT) : Prop := PT X e (lT T Wx m)
def MW (X : Cx) (T : Tb) (Wx : WX) (e : Expr) (m : XT) : Prop := PW X e (lT T Wx m)
def MA (X : Cx) (T : Tb) (Wx : WX) (es : List Expr) (m : XA) : Prop := PA X es (lA T Wx m)
def MO (X : Cx) (T : Tb) (Wx : WX) (e : Option Expr) (m : XO) : Prop := PO X e (lO T Wx m)
def MS (X : Cx) (T : Tb) (Wx : WX) (s : Stmt) (m : XS) : Prop := PS X s (lS T Wx m)
def MSs (X : Cx) (T : Tb) (Wx : WX) (s : List Stmt) (m : XS) : Prop := PSs X s (lS T Wx m)
theorem PE.imp {X : Cx} {e : Expr} {t t' : TE} (h : PE X e t) (i : ∀ σ H Q, t' σ H Q → t σ H Q) : PE X e t' := ⟨fun pins s σ H Q I q => h.run pins s σ H Q I (i _ _ _ q)⟩
theorem PT.imp {X : Cx} {e : Expr} {t t' : TT} (h : PT X e t) (i : ∀ σ H Q, t' σ H Q → t σ H Q) : PT X e t' := ⟨fun pins s σ H Q I q => h.run pins s σ H Q I (i _ _ _ q)⟩
theorem PW.imp {X : Cx} {e : Expr} {t t' : TT} (h : PW X e t) (i : ∀ σ H Q, t' σ H Q → t σ H Q) : PW X e t' := ⟨fun wh pins s σ H Q I q => h.run wh pins s σ H Q I (i _ _ _ q)⟩
theorem PA.imp {X : Cx} {es : List Expr} {t t' : TA} (h : PA X es t) (i : ∀ σ H Q, t' σ H Q → t σ H Q) : PA X es t' := ⟨fun pos pins s σ H Q I q => h.run pos pins s σ H Q I (i _ _ _ q)⟩
theorem PO.imp {X : Cx} {e : Option Expr} {t t' : TO} (h : PO X e t) (i : ∀ σ H Q, t' σ H Q → t σ H Q) : PO X e t' := ⟨fun pins s σ H Q I q => h.run pins s σ H Q I (i _ _ _ q)⟩
theorem PS.imp {X : Cx} {s : Stmt} {t t' : TS} (h : PS X s t) (i : ∀ E σ H, t' E σ H → t E σ H) : PS X s t' := ⟨fun pins s σ H E I q => h.run pins s σ H E I (i _ _ _ q)⟩
theorem PSs.imp {X : Cx} {s : List Stmt} {t t' : TS} (h : PSs X s t) (i : ∀ E σ H, t' E σ H → t E σ H) : PSs X s t' := ⟨fun pins s σ H E I q => h.run pins s σ H E I (i _ _ _ q)⟩
section
variable {T : Tb} {Wx : WX} {W W' : Wd} {st st' : Sto} {H H' : Hp} {σ : L2.St} {σd : Env}
theorem SlotsOk.to (t : To W st H W' st' H') (s : SlotsOk T W st H σd σ) : SlotsOk T W' st' H' σd σ :=
  ⟨s.len, fun i d e => let ⟨v, a, b⟩ := s.get i d e; ⟨v, a, b.to t⟩, fun p hp => ⟨(s.pin p hp).1, p.mono t (s.pin p hp).2⟩⟩
theorem At.mono (a : At T σ W st H σd) (g : Grow W st H W' st' H') (A : Abs T W' st' H') : At T σ W' st' H' σd := ⟨A, a.slots.to (g.to a.abs)⟩
theorem SlotsOk.set {i : Nat} {d : D} {v : V} (s : SlotsOk T W st H σd σ) (r : Rep T W st H d v) (hf : T.free i) : SlotsOk T W st H (setV σd i d) (σ.set i (some v)) := by
  refine ⟨by simp [setV, s.len], fun j e h => ?_, fun p hp => ⟨by rw [List.getElem?_set_ne (Ne.symm (hf.ne hp))]; exact (s.pin p hp).1, (s.pin p hp).2⟩⟩
  unfold setV at h
  by_cases hj : i = j
  · subst hj
    have hl : i < σd.length := by
      have := (List.getElem?_eq_some_iff.mp h).1
      simpa using this
    rw [List.getElem?_set_self hl] at h
    cases h
    exact ⟨v, List.getElem?_set_self (by rw [s.len]; exact hl), r⟩
  · rw [List.getElem?_set_ne hj] at h
    obtain ⟨w, a, b⟩ := s.get j e h
    exact ⟨w, by rw [List.getElem?_set_ne hj]; exact a, b⟩
theorem SlotsOk.none {i : Nat} (s : SlotsOk T W st H σd σ) (hf : T.free i) : SlotsOk T W st H (σd.set i none) (σ.set i none) := by
  refine ⟨by simp [s.len], fun j e h => ?_, fun p hp => ⟨by rw [List.getElem?_set_ne (Ne.symm (hf.ne hp))]; exact (s.pin p hp).1, (s.pin p hp).2⟩⟩
  by_cases hj : i = j
  · subst hj
    by_cases hl : i < σd.length
    · rw [List.getElem?_set_self hl] at h; cases h
    · rw [List.getElem?_eq_none (by simpa using hl)] at h; cases h
  · rw [List.getElem?_set_ne hj] at h
    obtain ⟨w, a, b⟩ := s.get j e h
    exact ⟨w, by rw [List.getElem?_set_ne hj]; exact a, b⟩
theorem SlotsOk.wipe (s : SlotsOk T W st H σd σ) : ∀ vs : List Nat, (∀ i ∈ vs, T.free i) → SlotsOk T W st H (wipeV σd vs) (L2.wipe σ vs)
  | [], _ => s
  | _ :: vs, h => (SlotsOk.wipe s vs fun i hi => h i (List.mem_cons_of_mem _ hi)).none (h _ List.mem_cons_self)
theorem OutG.shift {α β : Type} {R : Wd → Sto → Hp → α → β → Prop} {o : Out α} {Q : β → Hp → Prop} (g : Grow W st H W' st' H') (h : OutG T R Wx σ W st H o Q) : OutG T R Wx σ W' st' H' o Q := by
  cases o with
  | ok a s => exact fun W2 H2 b g2 A2 r => h W2 H2 b (g.trans g2) A2 r
  | exc e s => exact fun W2 H2 c d g2 A2 r => h W2 H2 c d (g.trans g2) A2 r
  | bad => exact h
theorem OutG.mono {α β : Type} {R : Wd → Sto → Hp → α → β → Prop} {o : Out α} {Q Q' : β → Hp → Prop} (h : OutG T R Wx σ W st H o Q) (i : ∀ b H, Q b H → Q' b H) : OutG T R Wx σ W st H o Q' := by
  cases o with
  | ok a s => exact fun W2 H2 b g2 A2 r => i _ _ (h W2 H2 b g2 A2 r)
  | exc e s => exact h
  | bad => exact h
theorem OutSt.shift {E : Ends} {o : OutS} (g : Grow W st H W' st' H') (h : OutSt T Wx E W st H o) : OutSt T Wx E W' st' H' o := by
  cases o with
  | nx a s => exact fun W2 H2 b g2 A2 => h W2 H2 b (g.trans g2) A2
  | rt a s => exact fun W2 H2 b g2 A2 r => h W2 H2 b (g.trans g2) A2 r
  | bk a s => exact fun W2 H2 b g2 A2 => h W2 H2 b (g.trans g2) A2
  | ct a s => exact fun W2 H2 b g2 A2 => h W2 H2 b (g.trans g2) A2
  | exc e a s => exact fun W2 H2 b c d g2 A2 r => h W2 H2 b c d (g.trans g2) A2 r
  | bad => exact h
theorem lG.mono {α β : Type} {R : Wd → Sto → Hp → α → β → Prop} {m : Env → Sto → Out α} {Q Q' : β → Hp → Prop} (h : lG T R Wx m σ H Q) (i : ∀ b H, Q b H → Q' b H) : lG T R Wx m σ H Q' := by
  obtain ⟨W, st, σd, a, o⟩ := h
  exact ⟨W, st, σd, a, o.mono i⟩
/-- one step: the first part's reading, then the rest -/
theorem step {α β γ δ : Type} {R : Wd → Sto → Hp → α → β → Prop} {R' : Wd → Sto → Hp → γ → δ → Prop} {m : Env → Sto → Out α} {k : α → Sto → Out γ} {Q : δ → Hp → Prop} {Q' : β → Hp → Prop}
    (a : At T σ W st H σd) (h : OutG T R' Wx σ W st H ((m σd st).bind k) Q)
    (i : ∀ W1 st1 H1 x b, At T σ W1 st1 H1 σd → Grow W st H W1 st1 H1 → R W1 st1 H1 x b → OutG T R' Wx σ W1 st1 H1 (k x st1) Q → Q' b H1) : lG T R Wx m σ H Q' := by
  refine ⟨W, st, σd, a, ?_⟩
  cases e : m σd st with
  | ok x s1 =>
    rw [e] at h
    exact fun W1 H1 b g A r => i W1 s1 H1 x b (a.mono g A) g r (OutG.shift g h)
  | exc x s1 =>
    rw [e] at h
    exact h
  | bad =>
    rw [e] at h
    exact h
/-- the same ahead of a statement's rest -/
theorem stepS {α β : Type} {R : Wd → Sto → Hp → α → β → Prop} {m : Env → Sto → Out α} {o : OutS} {E : Ends} {Q' : β → Hp → Prop}
    (a : At T σ W st H σd) (h : OutSt T Wx E W st H o) (ho : ∀ e s, m σd st = .exc e s → o = .exc e σd s) (hb : m σd st = .bad → o = .bad)
    (i : ∀ W1 st1 H1 x b, m σd st = .ok x st1 → At T σ W1 st1 H1 σd → Grow W st H W1 st1 H1 → R W1 st1 H1 x b → OutSt T Wx E W1 st1 H1 o → Q' b H1) : lG T R Wx m σ H Q' := by
  refine ⟨W, st, σd, a, ?_⟩
  cases e : m σd st with
  | ok x s1 =>
    exact fun W1 H1 b g A r => i W1 s1 H1 x b e (a.mono g A) g r (h.shift g)
  | exc x s1 =>
    rw [ho _ _ e] at h
    exact fun W1 H1 c d g A r => h W1 H1 σ c d g (a.mono g A) r
  | bad =>
    rw [hb e] at h
    exact h
/-- an end -/
theorem OutG.now {α β : Type} {R : Wd → Sto → Hp → α → β → Prop} {x : α} {b : β} {Q : β → Hp → Prop} (h : OutG T R Wx σ W st H (.ok x st) Q) (A : Abs T W st H) (r : R W st H x b) : Q b H := h W H b (Grow.refl _ _ _) A r
theorem OutG.opt {α β : Type} {R : Wd → Sto → Hp → α → β → Prop} {o : Option α} {Q : β → Hp → Prop} (h : OutG T R Wx σ W st H (ofOpt o st) Q) : ∃ x, o = some x ∧ OutG T R Wx σ W st H (.ok x st) Q := by
  cases o with
  | none => exact False.elim h
  | some x => exact ⟨x, rfl, h⟩
end
section
variable {X : Cx} {T : Tb} {Wx : WX}
theorem me_var {i : Nat} {x : PySem.Str} {pos : Pos} (hN : X.N[i]? = some x := by rfl) (hv : Vis X.env.scope x := by first | exact Or.inl rfl | exact Or.inr (Or.inl rfl) | exact Or.inr (Or.inr rfl)) (hd : (x == ("__debug__" : PySem.Str)) = false := by decide)
    (hcd : (x == ("__classdict__" : PySem.Str)) = false := by decide) : ME X T Wx (.Name x pos) (xVar i) := by
  refine PE.imp (pe_var hN hv hd hcd) fun σ H Q ⟨W, st, σd, a, h⟩ => ?_
  unfold xVar at h
  cases e : σd[i]? with
  | none => rw [e] at h; exact False.elim h
  | some o =>
    rw [e] at h
    cases o with
    | none => exact False.elim h
    | some d =>
      obtain ⟨v, e1, r⟩ := a.slots.get i d e
      exact ⟨v, e1, OutG.now h a.abs r⟩
theorem me_c {e : Expr} {v : V} {d : D} (h : PE X e (tC v)) (r : ∀ W st H, Rep T W st H d v) : ME X T Wx e (xC d) :=
  PE.imp h fun σ H Q ⟨_, _, _, a, h⟩ => OutG.now h a.abs (r _ _ _)
theorem me_int {i : Int} {j pos} : ME X T Wx (.Constant (.int i) j pos) (xC (.int i)) := me_c pe_int fun _ _ _ => .int i
theorem me_bl {b : Bool} {j pos} : ME X T Wx (.Constant (.bool b) j pos) (xC (.bl b)) := me_c pe_bl fun _ _ _ => .bl b
theorem me_non {j pos} : ME X T Wx (.Constant .none j pos) (xC .non) := me_c pe_non fun _ _ _ => .non
theorem me_str {x : PySem.Str} {j pos} (s : List Nat) (h : x = strOf s := by rfl) : ME X T Wx (.Constant (.str x) j pos) (xC (.str s)) := by
  subst h
  exact me_c pe_str fun _ _ _ => .str s
/-- a module's constant -/
theorem me_glob {x : PySem.Str} {v : V} {d : D} {u : Value} {pos : Pos} (hg : Gl X x) (hm : X.mg x = some u) (r : RelV v u) (hr : ∀ W st H, Rep T W st H d v) (hd : (x == ("__debug__" : PySem.Str)) = false := by decide) : ME X T Wx (.Name x pos) (xC d) :=
  me_c (pe_glob hg hm r hd) hr
theorem lift2 {e : Expr} {r : R2} {ma mb : XE} {g : Sto → D → D → Option D} (h : PE X e (tOp r (lE T Wx ma) (lE T Wx mb)))
    (hg : ∀ (W : Wd) (st : Sto) (H : Hp) (da db d : D) (x y : V) (Q : VK), Abs T W st H → Rep T W st H da x → Rep T W st H db y → g st da db = some d →
      (∀ W' H' v, Grow W st H W' st H' → Abs T W' st H' → Rep T W' st H' d v → Q v H') → r x y H Q) : ME X T Wx e (xOp g ma mb) := by
  refine PE.imp h fun σ H Q ⟨W, st, σd, a, h⟩ => ?_
  refine step a h fun W1 st1 H1 da x a1 g1 r1 h1 => ?_
  refine step a1 h1 fun W2 st2 H2 db y a2 g2 r2 h2 => ?_
  obtain ⟨d, e, h2⟩ := OutG.opt h2
  exact hg W2 st2 H2 da db d x y Q a2.abs (r1.mono a1.abs g2) r2 e h2
theorem lift1 {e : Expr} {r : V → Hp → VK → Prop} {ma : XE} {g : Sto → D → Option D} (h : PE X e (tUn r (lE T Wx ma)))
    (hg : ∀ (W : Wd) (st : Sto) (H : Hp) (da d : D) (x : V) (Q : VK), Abs T W st H → Rep T W st H da x → g st da = some d →
      (∀ W' H' v, Grow W st H W' st H' → Abs T W' st H' → Rep T W' st H' d v → Q v H') → r x H Q) : ME X T Wx e (xUn g ma) := by
  refine PE.imp h fun σ H Q ⟨W, st, σd, a, h⟩ => ?_
  refine step a h fun W1 st1 H1 da x a1 g1 r1 h1 => ?_
  obtain ⟨d, e, h1⟩ := OutG.opt h1
  exact hg W1 st1 H1 da d x Q a1.abs r1 e h1
end
end Mi
end
section
set_option Elab.async false
set_option linter.all false
set_option maxRecDepth 100000
set_option autoImplicit false
namespace Mi
open PySem L2
mutual
def toPy : D → PyData
  | .bl b => .bool b
  | .int i => .int i
  | .str s => .str (strOf s)
  | .tup xs => .tuple (toPyL xs)
  | .lst xs => .list (toPyL xs)
  | _ => .none
def toPyL : List D → List PyData
  | [] => []
  | x :: xs => toPy x :: toPyL xs
end
theorem strOk_of {s : List Nat} (h : s.all (fun c => decide (c < 1114112)) = true) : PyData.strOk (strOf s) = true := by
  unfold PyData.strOk strOf
  simpa using h
mutual
theorem canLay_of : ∀ (n : Nat) (d : D), d.flat n = true → (toPy d).canLay0 = true ∧ (toPy d).depth ≤ n
  | n, .non, _ => by simp [toPy, PyData.canLay0, PyData.depth]
  | n, .bl _, _ => by simp [toPy, PyData.canLay0, PyData.depth]
  | n, .int _, _ => by simp [toPy, PyData.canLay0, PyData.depth]
  | n, .str s, h => by
    have h' : s.all (fun c => decide (c < 1114112)) = true := by cases n <;> simpa [D.flat] using h
    simp only [toPy, PyData.canLay0, PyData.depth]
    exact ⟨strOk_of h', Nat.zero_le _⟩
  | 0, .tup xs, h => by simp [D.flat] at h
  | n + 1, .tup xs, h => by
    have q := canLayL_of n xs (by simpa [D.flat] using h)
    simp only [toPy, PyData.canLay0, PyData.depth]
    exact ⟨q.1, by omega⟩
  | 0, .lst xs, h => by simp [D.flat] at h
  | n + 1, .lst xs, h => by
    have q := canLayL_of n xs (by simpa [D.flat] using h)
    simp only [toPy, PyData.canLay0, PyData.depth]
    exact ⟨q.1, by omega⟩
  | n, .dct _, h => by cases n <;> simp [D.flat] at h
  | n, .ins _ _, h => by cases n <;> simp [D.flat] at h
  | n, .loc _, h => by cases n <;> simp [D.flat] at h
  | n, .scr _, h => by cases n <;> simp [D.flat] at h
  | n, .exn, h => by cases n <;> simp [D.flat] at h
theorem canLayL_of : ∀ (n : Nat) (d : List D), flatL n d = true → PyData.canLayAll0 (toPyL d) = true ∧ PyData.depthAll (toPyL d) ≤ n
  | n, [], _ => by simp [toPyL, PyData.canLayAll0, PyData.depthAll]
  | n, x :: xs, h => by
    have h' : x.flat n = true ∧ flatL n xs = true := by simpa [flatL] using h
    have a := canLay_of n x h'.1
    have b := canLayL_of n xs h'.2
    simp only [toPyL, PyData.canLayAll0, PyData.depthAll]
    exact ⟨by rw [a.1, b.1]; rfl, by omega⟩
end
theorem shaped_of {n : Nat} {d : D} (h : d.flat n = true) (hn : n ≤ 64) : SeqAt.shaped (toPy d) = true := by
  have q := canLay_of n d h
  unfold SeqAt.shaped
  rw [q.1, decide_eq_true (by omega : (toPy d).depth ≤ 64)]; rfl
theorem strOf_beq (a b : List Nat) : (strOf a == strOf b) = decide (a = b) := by
  by_cases h : a = b
  · subst h; simp
  · rw [decide_eq_false h]
    exact beq_eq_false_iff_ne.mpr fun e => h (strOf_inj e)
theorem int_beq (a b : Int) : (a == b) = decide (a = b) := by
  by_cases h : a = b
  · subst h; simp
  · rw [decide_eq_false h]; exact beq_eq_false_iff_ne.mpr h
mutual
theorem eqv_of : ∀ (a b : D) (n m : Nat), a.flat n = true → b.flat m = true → PyData.eqv (toPy a) (toPy b) = a.eqv b
  | .non, b, n, m, _, hb => by cases b <;> first | (cases m <;> simp [D.flat] at hb; done) | simp [toPy, PyData.eqv, D.eqv]
  | .bl x, b, n, m, _, hb => by cases b <;> first | (cases m <;> simp [D.flat] at hb; done) | (cases x <;> simp [toPy, PyData.eqv, D.eqv, b2i, int_beq])
  | .int x, b, n, m, _, hb => by
    cases b <;> first | (cases m <;> simp [D.flat] at hb; done) | (simp [toPy, PyData.eqv, D.eqv, b2i, int_beq]; done) | skip
    rename_i k
    cases k <;> simp [toPy, PyData.eqv, D.eqv, b2i, int_beq]
  | .str x, b, n, m, _, hb => by cases b <;> first | (cases m <;> simp [D.flat] at hb; done) | simp only [toPy, PyData.eqv, D.eqv, strOf_beq]
  | .tup xs, b, n, m, ha, hb => by
    cases n with
    | zero => simp [D.flat] at ha
    | succ n =>
      cases b <;> first
        | (cases m <;> simp [D.flat] at hb; done)
        | (simp only [toPy, PyData.eqv, D.eqv]; done)
        | skip
      · rename_i ys
        cases m with
        | zero => simp [D.flat] at hb
        | succ m =>
          simp only [toPy, PyData.eqv, D.eqv]
          exact eqvL_of xs ys n m (by simpa [D.flat] using ha) (by simpa [D.flat] using hb)
  | .lst xs, b, n, m, ha, hb => by
    cases n with
    | zero => simp [D.flat] at ha
    | succ n =>
      cases b <;> first
        | (cases m <;> simp [D.flat] at hb; done)
        | (simp only [toPy, PyData.eqv, D.eqv]; done)
        | skip
      · rename_i ys
        cases m with
        | zero => simp [D.flat] at hb
        | succ m =>
          simp only [toPy, PyData.eqv, D.eqv]
          exact eqvL_of xs ys n m (by simpa [D.flat] using ha) (by simpa [D.flat] using hb)
  | .dct _, b, n, m, ha, _ => by cases n <;> simp [D.flat] at ha
  | .ins _ _, b, n, m, ha, _ => by cases n <;> simp [D.flat] at ha
  | .loc _, b, n, m, ha, _ => by cases n <;> simp [D.flat] at ha
  | .scr _, b, n, m, ha, _ => by cases n <;> simp [D.flat] at ha
  | .exn, b, n, m, ha, _ => by cases n <;> simp [D.flat] at ha
theorem eqvL_of : ∀ (a b : List D) (n m : Nat), flatL n a = true → flatL m b = true → PyData.eqvAll (toPyL a) (toPyL b) = eqvL a b
  | [], b, n, m, _, _ => by cases b <;> simp [toPyL, PyData.eqvAll, eqvL]
  | x :: xs, b, n, m, ha, hb => by
    cases b with
    | nil => simp [toPyL, PyData.eqvAll, eqvL]
    | cons y ys =>
      have ha' : x.flat n = true ∧ flatL n xs = true := by simpa [flatL] using ha
      have hb' : y.flat m = true ∧ flatL m ys = true := by simpa [flatL] using hb
      simp only [toPyL, PyData.eqvAll, eqvL]
      rw [eqv_of x y n m ha'.1 hb'.1, eqvL_of xs ys n m ha'.2 hb'.2]
end
section
variable {K : PySem.W.Frag} {T : Tb} {W : Wd} {st : Sto} {H : Hp}
theorem Fl.sql {a : Addr} {vs : List V} (h : Fl W st H a (.lst vs)) : SqL K H a vs := .inl h.rd
mutual
theorem Rep.dp : ∀ {d : D} {v : V} (n : Nat), d.flat n = true → Rep T W st H d v → Dp K H v (toPy d)
  | _, _, _, _, .non => .non
  | _, _, _, _, .bl b => .bl b
  | _, _, _, _, .int i => .int i
  | _, _, _, _, .str s => .str _
  | _, _, n, h, .tup q r => by
    cases n with
    | zero => simp [D.flat] at h
    | succ n => exact .tup (SqT.of q) (Reps.dp n (by simpa [D.flat] using h) r)
  | _, _, n, h, .lst q r => by
    cases n with
    | zero => simp [D.flat] at h
    | succ n => exact .lst (Fl.sql q) (Reps.dp n (by simpa [D.flat] using h) r)
  | _, _, n, h, .dK _ _ => by cases n <;> simp [D.flat] at h
  | _, _, n, h, .dT _ _ => by cases n <;> simp [D.flat] at h
  | _, _, n, h, .ins _ _ _ _ => by cases n <;> simp [D.flat] at h
  | _, _, n, h, .loc _ => by cases n <;> simp [D.flat] at h
  | _, _, n, h, .scr _ _ => by cases n <;> simp [D.flat] at h
theorem Reps.dp : ∀ {d : List D} {v : List V} (n : Nat), flatL n d = true → Reps T W st H d v → DpAll K H v (toPyL d)
  | _, _, _, _, .nil => .nil
  | _, _, n, h, .cons q r => .cons (Rep.dp n (by simp [flatL] at h; exact h.1) q) (Reps.dp n (by simp [flatL] at h; exact h.2) r)
end
/-- a live list as it stands, for an operation that only reads -/
theorem Rep.top (A : Abs T W st H) {d : D} {v : V} {n : Nat} (hf : (topOf st d).flat n = true) (r : Rep T W st H d v) : Dp K H v (toPy (topOf st d)) := by
  cases d with
  | loc l =>
    cases r with
    | loc h =>
      rename_i a
      unfold topOf at hf ⊢
      cases e : st[l]? with
      | none => simp only [e] at hf; cases n <;> simp [D.flat] at hf
      | some c =>
        simp only [e] at hf ⊢
        cases c with
        | lst xs =>
          obtain ⟨vs, e1, r1⟩ := A.cell l _ a e h
          cases n with
          | zero => simp [D.flat] at hf
          | succ n => exact .lst (SqL.of e1) (Reps.dp n (by simpa [D.flat] using hf) r1)
        | dct _ => simp only [] at hf; cases n <;> simp [D.flat] at hf
        | ins _ _ => simp only [] at hf; cases n <;> simp [D.flat] at hf
        | dead => simp only [] at hf; cases n <;> simp [D.flat] at hf
  | non => exact Rep.dp n hf r
  | bl _ => exact Rep.dp n hf r
  | int _ => exact Rep.dp n hf r
  | str _ => exact Rep.dp n hf r
  | tup _ => exact Rep.dp n hf r
  | lst _ => exact Rep.dp n hf r
  | dct _ => exact Rep.dp n hf r
  | ins _ _ => exact Rep.dp n hf r
  | scr _ => exact Rep.dp n hf r
  | exn => exact Rep.dp n hf r
end
end Mi
end
section
set_option Elab.async false
set_option linter.all false
set_option maxRecDepth 100000
set_option autoImplicit false
namespace Mi
open PySem L2
theorem szL_eq : szL = sizeLine := by rw [sizeLine_eq]; rfl
section
variable {X : Cx} {T : Tb} {Wx : WX} {a b c : Expr} {ma mb mc : XE} {pos : Pos}
/-- the result stands where one is -/
theorem stay {W : Wd} {st : Sto} {H : Hp} {d : D} {v : V} {Q : VK} (A : Abs T W st H) (h : ∀ W' H' v, Grow W st H W' st H' → Abs T W' st H' → Rep T W' st H' d v → Q v H') (r : Rep T W st H d v) : Q v H := h W H v (Grow.refl _ _ _) A r
/-- a new object that no cell is -/
theorem Grow.fresh {W : Wd} {st : Sto} {H : Hp} {p : Addr} {o : HO} (hp : H p = none) : Grow W st H W st (upd H p o) where
  fbs := fun _ h => h
  fbn := fun _ h => .inl h
  rho := List.prefix_refl _
  keep := fun a u h _ _ => .inl (by rw [upd_ne (ne_of_none h hp)]; exact h)
  new := fun _ h => .inl h
  still := fun a u h t => ⟨u, by rw [upd_ne (ne_of_none h hp)]; exact h, t⟩
theorem CellOk.to {W W' : Wd} {st st' : Sto} {H H' : Hp} (t : To W st H W' st' H') {c : Cell} {a : Addr} (hs : ∀ o, H a = some o → (∀ ps, o ≠ .tbl ps) → H' a = some o) (h : CellOk T W st H c a) : CellOk T W' st' H' c a := by
  cases c with
  | lst xs => obtain ⟨vs, e, r⟩ := h; exact ⟨vs, hs _ e (fun _ z => by cases z), r.to t⟩
  | dct kvs =>
    rcases h with ⟨vs, e, r⟩ | ⟨vs, e, r⟩
    · exact .inl ⟨vs, hs _ e (fun _ z => by cases z), r.to t⟩
    · exact .inr ⟨vs, hs _ e (fun _ z => by cases z), r.to t⟩
  | ins c fs => obtain ⟨dx, vs, e, r⟩ := h; exact ⟨dx, vs, hs _ e (fun _ z => by cases z), r.to t⟩
  | dead => trivial
theorem Abs.fresh {W : Wd} {st : Sto} {H : Hp} {p : Addr} {o : HO} (A : Abs T W st H) (hp : H p = none) : Abs T W st (upd H p o) :=
  ⟨A.len, fun l c a h1 h2 => (A.cell l c a h1 h2).to ((Grow.fresh hp).to A) fun u e _ => by rw [upd_ne (ne_of_none e hp)]; exact e, A.one, A.out, fun x hx => (A.fbt x hx).elim fun u e => ⟨u, by rw [upd_ne (ne_of_none e.1 hp)]; exact e.1, e.2⟩, tabs_new A.tabs hp⟩
/-- a new tuple -/
theorem newTup {W : Wd} {st : Sto} {H : Hp} {ds : List D} {vs : List V} {Q : VK} (A : Abs T W st H) (r : Reps T W st H ds vs)
    (h : ∀ W' H' v, Grow W st H W' st H' → Abs T W' st H' → Rep T W' st H' (.tup ds) v → Q v H') (p : Addr) (hp : H p = none) : Q (.ref p) (upd H p (.tup vs)) :=
  h W _ _ (Grow.fresh hp) (A.fresh hp) (.tup upd_same (r.mono A (Grow.fresh hp)))
theorem me_add (ha : ME X T Wx a ma) (hb : ME X T Wx b mb) : ME X T Wx (.BinOp a .Add b pos) (xOp vAdd ma mb) := by
  refine lift2 (pe_op (((op_add.or op_add_ib).or op_add_str).or op_catA) ha hb) ?_
  intro W st H da db d x y Q A ra rb e h
  cases ra <;> cases rb <;> simp only [vAdd] at e <;> first | (cases e; done) | skip
  · rename_i i k; cases e
    exact .inl (.inl (.inr ⟨i, k, rfl, rfl, by have := stay A h (.int _); cases k <;> simpa [PyProof.Rows.b2i] using this⟩))
  · rename_i i j; cases e; exact .inl (.inl (.inl ⟨i, j, rfl, rfl, stay A h (.int _)⟩))
  · rename_i s t
    split at e
    · rename_i hz
      cases e
      refine .inl (.inr ⟨strOf s, strOf t, rfl, rfl, by rw [← szL_eq]; simpa [strOf, PySem.Str.length] using hz, ?_⟩)
      have q := stay A h (.str (s ++ t))
      have e : strOf (s ++ t) = strOf s ++ strOf t := by
        show PySem.Str.mk _ = PySem.Str.mk _
        simp [strOf]
      rw [e] at q; exact q
    · cases e
  · rename_i xs a vs h1 r1 ys b ws h2 r2
    split at e
    · rename_i hz
      cases e
      refine .inr ⟨a, b, vs, ws, rfl, rfl, SqT.of h1, SqT.of h2, by rw [r1.length, r2.length, ← szL_eq]; exact hz, fun z => ?_, fun z1 z2 => ?_, fun _ _ p hp => ?_⟩
      · have e1 : xs = [] := by have := r1.length; rw [z] at this; exact List.length_eq_zero_iff.mp this.symm
        subst e1
        exact stay A h (.tup h2 r2)
      · have e1 : ys = [] := by have := r2.length; rw [z2] at this; exact List.length_eq_zero_iff.mp this.symm
        subst e1
        rw [List.append_nil] at h
        exact stay A h (.tup h1 r1)
      · exact newTup A (r1.append r2) h p hp
    · cases e
theorem me_sub (ha : ME X T Wx a ma) (hb : ME X T Wx b mb) : ME X T Wx (.BinOp a .Sub b pos) (xOp vSub ma mb) := by
  refine lift2 (pe_op op_sub ha hb) ?_
  intro W st H da db d x y Q A ra rb e h
  cases ra <;> cases rb <;> simp only [vSub] at e <;> first | (cases e; done) | skip
  cases e; exact ⟨_, _, rfl, rfl, stay A h (.int _)⟩
theorem me_mul (ha : ME X T Wx a ma) (hb : ME X T Wx b mb) : ME X T Wx (.BinOp a .Mult b pos) (xOp vMul ma mb) := by
  refine lift2 (pe_op op_mul ha hb) ?_
  intro W st H da db d x y Q A ra rb e h
  cases ra <;> cases rb <;> simp only [vMul] at e <;> first | (cases e; done) | skip
  split at e
  · rename_i hz
    cases e; exact ⟨_, _, rfl, rfl, by unfold CMul; unfold big at hz; omega, stay A h (.int _)⟩
  · cases e
theorem me_mod (ha : ME X T Wx a ma) (hb : ME X T Wx b mb) : ME X T Wx (.BinOp a .Mod b pos) (xOp vMod ma mb) := by
  refine lift2 (pe_op op_mod ha hb) ?_
  intro W st H da db d x y Q A ra rb e h
  cases ra <;> cases rb <;> simp only [vMod] at e <;> first | (cases e; done) | skip
  split at e
  · rename_i hz
    cases e; exact ⟨_, _, rfl, rfl, hz, stay A h (.int _)⟩
  · cases e
theorem me_div (ha : ME X T Wx a ma) (hb : ME X T Wx b mb) : ME X T Wx (.BinOp a .FloorDiv b pos) (xOp vDiv ma mb) := by
  refine lift2 (pe_op op_fdiv ha hb) ?_
  intro W st H da db d x y Q A ra rb e h
  cases ra <;> cases rb <;> simp only [vDiv] at e <;> first | (cases e; done) | skip
  split at e
  · rename_i hz
    cases e; exact ⟨_, _, rfl, rfl, hz, stay A h (.int _)⟩
  · cases e
theorem me_pow (ha : ME X T Wx a ma) (hb : ME X T Wx b mb) : ME X T Wx (.BinOp a .Pow b pos) (xOp vPow ma mb) := by
  refine lift2 (pe_op op_pow ha hb) ?_
  intro W st H da db d x y Q A ra rb e h
  cases ra <;> cases rb <;> simp only [vPow] at e <;> first | (cases e; done) | skip
  split at e
  · rename_i hz
    cases e; exact ⟨_, _, rfl, rfl, ⟨hz.1, hz.2.1, by unfold big at hz; omega⟩, stay A h (.int _)⟩
  · cases e
theorem me_neg (ha : ME X T Wx a ma) : ME X T Wx (.UnaryOp .USub a pos) (xUn vNeg ma) := by
  refine lift1 (pe_un un_neg ha) ?_
  intro W st H da d x Q A ra e h
  cases ra <;> simp only [vNeg] at e <;> first | (cases e; done) | skip
  cases e; exact ⟨_, rfl, stay A h (.int _)⟩
/-- an operator's rule: soundness of g -/
structure Cm (X : Cx) (T : Tb) (op : CmpOp) (g : Sto → D → D → Option D) (r : R2) : Prop where
  ok : OpR X (compareOp op) r
  sound : ∀ (W : Wd) (st : Sto) (H : Hp) (da db d : D) (x y : V) (Q : VK), Abs T W st H → Rep T W st H da x → Rep T W st H db y → g st da db = some d →
      (∀ W' H' v, Grow W st H W' st H' → Abs T W' st H' → Rep T W' st H' d v → Q v H') → r x y H Q
  bool : ∀ st da db d, g st da db = some d → ∃ k, d = .bl k
theorem me_cmp {op : CmpOp} {g : Sto → D → D → Option D} {r : R2} (C : Cm X T op g r) (ha : ME X T Wx a ma) (hb : ME X T Wx b mb) (hm : behindInMarks op b = false) : ME X T Wx (.Compare a [op] [b] pos) (xOp g ma mb) :=
  lift2 (pe_cmpR C.ok ha hb hm) C.sound
theorem mt_cmp {op : CmpOp} {g : Sto → D → D → Option D} {r : R2} (C : Cm X T op g r) (ha : ME X T Wx a ma) (hb : ME X T Wx b mb) (hm : behindInMarks op b = false) : MT X T Wx (.Compare a [op] [b] pos) (tV (xOp g ma mb)) := by
  refine PT.imp (pt_cmpR C.ok ha hb hm) fun σ H Q ⟨W, st, σd, a, h⟩ => ?_
  unfold tV xOp at h
  show lE T Wx ma σ H _
  have h' : OutG T REq Wx σ W st H ((ma σd st).bind fun x st1 => ((mb σd st1).bind fun y st2 => ofOpt (g st2 x y) st2).bind fun d st3 => ofOpt (truth st3 d) st3) Q := by
    cases e : ma σd st with
    | ok x s =>
      rw [e] at h; exact h
    | exc x s => rw [e] at h; exact h
    | bad => rw [e] at h; exact h
  refine step a h' fun W1 st1 H1 da x a1 g1 r1 h1 => ?_
  have h1' : OutG T REq Wx σ W1 st1 H1 ((mb σd st1).bind fun y st2 => (ofOpt (g st2 da y) st2).bind fun d st3 => ofOpt (truth st3 d) st3) Q := by
    cases e : mb σd st1 with
    | ok x s => rw [e] at h1; exact h1
    | exc x s => rw [e] at h1; exact h1
    | bad => rw [e] at h1; exact h1
  refine step a1 h1' fun W2 st2 H2 db y a2 g2 r2 h2 => ?_
  cases e : g st2 da db with
  | none => rw [e] at h2; exact False.elim h2
  | some d =>
    obtain ⟨k, rfl⟩ := C.bool _ _ _ _ e
    rw [e] at h2
    refine C.sound W2 st2 H2 da db (.bl k) x y _ a2.abs (r1.mono a1.abs g2) r2 e fun W' H' v g' A' r' => ?_
    cases r'
    exact ⟨k, rfl, h2 W' H' k g' A' rfl⟩
theorem cm_eq (hu : X.A.units + 64 < cLine) : Cm X T .Eq vEq (rEqD X.K) where
  ok := op_eqD hu
  sound := by
    intro W st H da db d x y Q A ra rb e h
    simp only [vEq] at e
    split at e
    · rename_i hf
      simp only [Bool.and_eq_true] at hf
      cases e
      refine ⟨_, _, ra.top A hf.1, rb.top A hf.2, shaped_of hf.1 (by decide), shaped_of hf.2 (by decide), ?_⟩
      rw [eqv_of _ _ 60 60 hf.1 hf.2]
      exact stay A h (.bl _)
    · cases e
  bool := by
    intro st da db d e
    simp only [vEq] at e
    split at e <;> cases e
    exact ⟨_, rfl⟩
theorem cm_ne (hu : X.A.units + 64 < cLine) : Cm X T .NotEq vNe (rNeD X.K) where
  ok := op_neD hu
  sound := by
    intro W st H da db d x y Q A ra rb e h
    simp only [vNe] at e
    split at e
    · rename_i hf
      simp only [Bool.and_eq_true] at hf
      cases e
      refine ⟨_, _, ra.top A hf.1, rb.top A hf.2, shaped_of hf.1 (by decide), shaped_of hf.2 (by decide), ?_⟩
      rw [eqv_of _ _ 60 60 hf.1 hf.2]
      exact stay A h (.bl _)
    · cases e
  bool := by
    intro st da db d e
    simp only [vNe] at e
    split at e <;> cases e
    exact ⟨_, rfl⟩
theorem cm_gt : Cm X T .Gt vGt (rI0 fun i j => .bl (decide (j < i))) where
  ok := op_gt
  sound := by
    intro W st H da db d x y Q A ra rb e h
    cases ra <;> cases rb <;> simp only [vGt] at e <;> first | (cases e; done) | skip
    cases e; exact ⟨_, _, rfl, rfl, stay A h (.bl _)⟩
  bool := by intro st da db d e; unfold vGt at e; split at e <;> cases e; exact ⟨_, rfl⟩
theorem cm_le : Cm X T .LtE vLe (rI0 fun i j => .bl (decide (i ≤ j))) where
  ok := op_le
  sound := by
    intro W st H da db d x y Q A ra rb e h
    cases ra <;> cases rb <;> simp only [vLe] at e <;> first | (cases e; done) | skip
    cases e; exact ⟨_, _, rfl, rfl, stay A h (.bl _)⟩
  bool := by intro st da db d e; unfold vLe at e; split at e <;> cases e; exact ⟨_, rfl⟩
theorem cm_ge : Cm X T .GtE vGe (rI0 fun i j => .bl (decide (j ≤ i))) where
  ok := op_ge
  sound := by
    intro W st H da db d x y Q A ra rb e h
    cases ra <;> cases rb <;> simp only [vGe] at e <;> first | (cases e; done) | skip
    cases e; exact ⟨_, _, rfl, rfl, stay A h (.bl _)⟩
  bool := by intro st da db d e; unfold vGe at e; split at e <;> cases e; exact ⟨_, rfl⟩
end
end Mi
end
section
set_option Elab.async false
set_option linter.all false
set_option maxRecDepth 100000
set_option autoImplicit false
set_option maxHeartbeats 2000000
namespace Mi
open PySem L2
theorem ltS_eq : ∀ a b : List Nat, ltS a b = decide (a < b)
  | [], [] => by simp [ltS]
  | [], _ :: _ => by simp [ltS]
  | _ :: _, [] => by simp [ltS]
  | x :: xs, y :: ys => by
    simp only [ltS, List.cons_lt_cons_iff]
    by_cases h : x = y
    · subst h; simp [ltS_eq xs ys]
    · rw [if_neg h]; simp [h]
mutual
theorem eqv_ord : ∀ (n : Nat) (a b : D), a.ord n b = true → a.eqv b = decide (a = b)
  | n, .int a, b, h => by cases b <;> simp [D.ord, D.eqv] at h ⊢
  | n, .str a, b, h => by cases b <;> simp [D.ord, D.eqv] at h ⊢
  | 0, .tup a, b, h => by cases b <;> simp [D.ord] at h
  | n + 1, .tup a, b, h => by
    cases b <;> simp only [D.ord] at h <;> first | (cases h; done) | skip
    rename_i b
    have q := eqvL_ord n a b h
    simp only [D.eqv]; rw [q]
    by_cases z : a = b <;> simp [z]
  | 0, .lst a, b, h => by cases b <;> simp [D.ord] at h
  | n + 1, .lst a, b, h => by
    cases b <;> simp only [D.ord] at h <;> first | (cases h; done) | skip
    rename_i b
    have q := eqvL_ord n a b h
    simp only [D.eqv]; rw [q]
    by_cases z : a = b <;> simp [z]
  | n, .non, b, h => by cases b <;> simp [D.ord] at h
  | n, .bl _, b, h => by cases b <;> simp [D.ord] at h
  | n, .dct _, b, h => by cases b <;> simp [D.ord] at h
  | n, .ins _ _, b, h => by cases b <;> simp [D.ord] at h
  | n, .loc _, b, h => by cases b <;> simp [D.ord] at h
  | n, .scr _, b, h => by cases b <;> simp [D.ord] at h
  | n, .exn, b, h => by cases b <;> simp [D.ord] at h
theorem eqvL_ord : ∀ (n : Nat) (a b : List D), ordL n a b = true → eqvL a b = decide (a = b)
  | n, [], b, h => by cases b <;> simp [eqvL]
  | n, x :: xs, b, h => by
    cases b with
    | nil => simp [eqvL]
    | cons y ys =>
      have h' : x.ord n y = true ∧ ordL n xs ys = true := by simpa [ordL] using h
      simp only [eqvL]
      rw [eqv_ord n x y h'.1, eqvL_ord n xs ys h'.2]
      by_cases e1 : x = y <;> by_cases e2 : xs = ys <;> simp [e1, e2]
end
mutual
theorem alike_ord : ∀ (n : Nat) (a b : D), a.ord n b = true → PySem.W.alike (toPy a) (toPy b) = true
  | n, .int a, b, h => by cases b <;> simp [D.ord] at h; simp [toPy, PySem.W.alike]
  | n, .str a, b, h => by cases b <;> simp [D.ord] at h; simp [toPy, PySem.W.alike]
  | 0, .tup a, b, h => by cases b <;> simp [D.ord] at h
  | n + 1, .tup a, b, h => by
    cases b <;> simp only [D.ord] at h <;> first | (cases h; done) | skip
    simp only [toPy, PySem.W.alike]
    exact alikeL_ord n _ _ h
  | 0, .lst a, b, h => by cases b <;> simp [D.ord] at h
  | n + 1, .lst a, b, h => by
    cases b <;> simp only [D.ord] at h <;> first | (cases h; done) | skip
    simp only [toPy, PySem.W.alike]
    exact alikeL_ord n _ _ h
  | n, .non, b, h => by cases b <;> simp [D.ord] at h
  | n, .bl _, b, h => by cases b <;> simp [D.ord] at h
  | n, .dct _, b, h => by cases b <;> simp [D.ord] at h
  | n, .ins _ _, b, h => by cases b <;> simp [D.ord] at h
  | n, .loc _, b, h => by cases b <;> simp [D.ord] at h
  | n, .scr _, b, h => by cases b <;> simp [D.ord] at h
  | n, .exn, b, h => by cases b <;> simp [D.ord] at h
theorem alikeL_ord : ∀ (n : Nat) (a b : List D), ordL n a b = true → PySem.W.alikeAll (toPyL a) (toPyL b) = true
  | n, [], b, h => by cases b <;> simp [toPyL, PySem.W.alikeAll]
  | n, x :: xs, [], h => by simp [toPyL, PySem.W.alikeAll]
  | n, x :: xs, y :: ys, h => by
    have h' : x.ord n y = true ∧ ordL n xs ys = true := by simpa [ordL] using h
    simp only [toPyL, PySem.W.alikeAll, alike_ord n x y h'.1, alikeL_ord n xs ys h'.2, Bool.and_self]
end
theorem toksNil {ys : List PyData} : PyProof.Rows.lexLt PyProof.Rows.itemOrd (PySem.W.keyToksAll []) (PySem.W.keyToksAll ys) = !ys.isEmpty := by
  cases ys with
  | nil => simp [PySem.W.keyToksAll, PyProof.Rows.lex_irrefl]
  | cons y ys =>
    simp only [PySem.W.keyToksAll, List.isEmpty_cons, Bool.not_false]
    exact PyProof.Rows.lex_true.mpr (.inl (by decide))
theorem toksCons {y : PyData} {ys : List PyData} : PyProof.Rows.lexLt PyProof.Rows.itemOrd (PySem.W.keyToksAll (y :: ys)) (PySem.W.keyToksAll []) = false := by
  simp only [PySem.W.keyToksAll]
  exact PyProof.Rows.lex_false.mpr ⟨by decide, .inl (by decide)⟩
mutual
theorem dataLt_ord : ∀ (n : Nat) (a b : D), a.ord n b = true → a.flat 20 = true → b.flat 20 = true → PySem.W.dataLt (toPy a) (toPy b) = a.lt b
  | n, .int a, b, h, _, _ => by cases b <;> simp [D.ord] at h; simp only [toPy, D.lt, PySem.W.dataLt_int]
  | n, .str a, b, h, _, _ => by
    cases b <;> simp [D.ord] at h
    simp only [toPy, D.lt, PySem.W.dataLt_str, ltS_eq, strOf]
  | 0, .tup a, b, h, _, _ => by cases b <;> simp [D.ord] at h
  | n + 1, .tup a, b, h, fa, fb => by
    cases b <;> simp only [D.ord] at h <;> first | (cases h; done) | skip
    simp only [toPy, D.lt, PySem.W.dataLt_tuple]
    exact dataLtL_ord n _ _ h (flatL_up 19 _ (by simpa [D.flat] using fa)) (flatL_up 19 _ (by simpa [D.flat] using fb))
  | 0, .lst a, b, h, _, _ => by cases b <;> simp [D.ord] at h
  | n + 1, .lst a, b, h, fa, fb => by
    cases b <;> simp only [D.ord] at h <;> first | (cases h; done) | skip
    simp only [toPy, D.lt, PySem.W.dataLt_list]
    exact dataLtL_ord n _ _ h (flatL_up 19 _ (by simpa [D.flat] using fa)) (flatL_up 19 _ (by simpa [D.flat] using fb))
  | n, .non, b, h, _, _ => by cases b <;> simp [D.ord] at h
  | n, .bl _, b, h, _, _ => by cases b <;> simp [D.ord] at h
  | n, .dct _, b, h, _, _ => by cases b <;> simp [D.ord] at h
  | n, .ins _ _, b, h, _, _ => by cases b <;> simp [D.ord] at h
  | n, .loc _, b, h, _, _ => by cases b <;> simp [D.ord] at h
  | n, .scr _, b, h, _, _ => by cases b <;> simp [D.ord] at h
  | n, .exn, b, h, _, _ => by cases b <;> simp [D.ord] at h
theorem dataLtL_ord : ∀ (n : Nat) (a b : List D), ordL n a b = true → flatL 20 a = true → flatL 20 b = true → PyProof.Rows.lexLt PyProof.Rows.itemOrd (PySem.W.keyToksAll (toPyL a)) (PySem.W.keyToksAll (toPyL b)) = ltL a b
  | n, [], b, _, _, _ => by
    simp only [toPyL, toksNil]
    cases b <;> simp [toPyL, ltL]
  | n, x :: xs, [], _, _, _ => by simp only [toPyL, toksCons, ltL]
  | n, x :: xs, y :: ys, h, fa, fb => by
    have h' : x.ord n y = true ∧ ordL n xs ys = true := by simpa [ordL] using h
    have fa' : x.flat 20 = true ∧ flatL 20 xs = true := by simpa [flatL] using fa
    have fb' : y.flat 20 = true ∧ flatL 20 ys = true := by simpa [flatL] using fb
    simp only [toPyL, ltL]
    rw [PySem.W.dataLt_cons (alike_ord n x y h'.1), eqv_of x y 20 20 fa'.1 fb'.1, eqv_ord n x y h'.1, dataLtL_ord n xs ys h'.2 fa'.2 fb'.2, dataLt_ord n x y h'.1 fa'.1 fb'.1]
    by_cases e : x = y <;> simp [e]
theorem flat_up : ∀ (n : Nat) (d : D), d.flat n = true → d.flat (n + 1) = true
  | n, .non, h => by simp [D.flat]
  | n, .bl _, h => by simp [D.flat]
  | n, .int _, h => by simp [D.flat]
  | n, .str s, h => by cases n <;> simpa [D.flat] using h
  | 0, .tup _, h => by simp [D.flat] at h
  | n + 1, .tup xs, h => by simp only [D.flat] at h ⊢; exact flatL_up n xs h
  | 0, .lst _, h => by simp [D.flat] at h
  | n + 1, .lst xs, h => by simp only [D.flat] at h ⊢; exact flatL_up n xs h
  | n, .dct _, h => by cases n <;> simp [D.flat] at h
  | n, .ins _ _, h => by cases n <;> simp [D.flat] at h
  | n, .loc _, h => by cases n <;> simp [D.flat] at h
  | n, .scr _, h => by cases n <;> simp [D.flat] at h
  | n, .exn, h => by cases n <;> simp [D.flat] at h
theorem flatL_up : ∀ (n : Nat) (d : List D), flatL n d = true → flatL (n + 1) d = true
  | n, [], h => by simp [flatL]
  | n, x :: xs, h => by
    have h' : x.flat n = true ∧ flatL n xs = true := by simpa [flatL] using h
    simp only [flatL, flat_up n x h'.1, flatL_up n xs h'.2, Bool.and_self]
end
section
variable {X : Cx} {T : Tb} {pins : List (Addr × Obj)} {σ : L2.St} {H : Hp} {s : Shared} {W : Wd} {st : Sto}
/-- a datum as the library reads it -/
theorem Rep.reads (I : L2.Inv X pins σ H s) {d : D} {v : V} {u : Value} {n : Nat} (hf : d.flat n = true) (r : Rep T W st H d v) (ru : RelV v u) : ∃ as, Reads s.heap u (toPy d) as := Dp.reads I _ _ _ (r.dp n hf) ru
theorem ord_ne {n : Nat} {a b : D} (h : a.ord n b = true) : toPy a ≠ .none := by
  cases n <;> cases a <;> cases b <;> simp [D.ord, toPy] at h ⊢
theorem rcLt (I : L2.Inv X pins σ H s) (A : Around) (da db : D) (x y : V) (u v : Value) (hu : A.units + 41 < cLine) (ra : Rep T W st H da x) (rb : Rep T W st H db y) (ru : RelV x u) (rv : RelV y v) (fa : da.flat 20 = true) (fb : db.flat 20 = true) (h : da.ord 20 db = true) : PySem.SeqAt.RcLt A s u v (da.lt db) := by
  obtain ⟨as, R1⟩ := ra.reads I fa ru
  obtain ⟨bs, R2⟩ := rb.reads I fb rv
  have q := PySem.W.rcLt_alike _ _ A s u v as bs R1 R2 (alike_ord 20 da db h) (ord_ne h) (by have := (canLay_of 20 da fa).2; omega)
  rw [dataLt_ord 20 da db h fa fb] at q
  exact q
end
section
variable {X : Cx} {T : Tb}
def rLtD (T : Tb) : R2 := fun x y H Q => ∃ W st da db, Rep T W st H da x ∧ Rep T W st H db y ∧ da.flat 20 = true ∧ db.flat 20 = true ∧ da.ord 20 db = true ∧ Q (.bl (da.lt db)) H
theorem op_ltD (hu : X.A.units + 64 < cLine) : OpR X (compareOp .Lt) (rLtD T) := by
  intro pins s σ H x y v u Q I rx ry h
  obtain ⟨W, st, da, db, ra, rb, fa, fb, ho, q⟩ := h
  have R := rcLt I X.A da db x y v u (by omega) ra rb rx ry fa fb ho
  have z : wpAny (model X.prog X.w) X.A (compareOp .Lt v u) (EP X pins σ Q) X.xe s := R X.prog X.w X.xe (EP X pins σ Q) ⟨.bl _, H, I, rfl, q⟩
  exact z
theorem cm_lt (hu : X.A.units + 64 < cLine) : Cm X T .Lt vLt (rLtD T) where
  ok := op_ltD hu
  sound := by
    intro W st H da db d x y Q A ra rb e h
    simp only [vLt] at e
    split at e
    · rename_i hf
      simp only [Bool.and_eq_true] at hf
      cases e
      exact ⟨W, st, da, db, ra, rb, hf.1.1, hf.1.2, hf.2, stay A h (.bl _)⟩
    · cases e
  bool := by
    intro st da db d e
    simp only [vLt] at e
    split at e <;> cases e
    exact ⟨_, rfl⟩
end
end Mi
end
section
set_option Elab.async false
set_option linter.all false
set_option maxRecDepth 100000
set_option autoImplicit false
namespace Mi
open PySem L2
theorem keyOf_inj {j k : D} {p q : Key} (hj : keyOf j = some p) (hk : keyOf k = some q) (e : p = q) : j = k := by
  subst e
  cases j <;> simp [keyOf] at hj <;> cases k <;> simp [keyOf] at hk <;> (subst hj) <;> first
    | (cases hk; done)
    | (have := Sum.inl.inj hk; rw [this])
    | (have := strOf_inj (Sum.inr.inj hk); rw [this])
    | (rw [hk])
    | (rw [strOf_inj hk])
theorem keysOf_inj : ∀ {a b : List D} {p : List Key}, keysOf a = some p → keysOf b = some p → a = b
  | [], b, p, ha, hb => by
    cases ha
    cases b with
    | nil => rfl
    | cons y ys => simp only [keysOf] at hb; split at hb <;> cases hb
  | x :: xs, b, p, ha, hb => by
    simp only [keysOf] at ha
    split at ha
    · rename_i k ks e1 e2
      cases ha
      cases b with
      | nil => cases hb
      | cons y ys =>
        simp only [keysOf] at hb
        split at hb
        · rename_i k' ks' e3 e4
          injection hb with hb
          injection hb with h1 h2
          subst h1 h2
          rw [keyOf_inj e1 e3 rfl, keysOf_inj e2 e4]
        · cases hb
    · cases ha
theorem keyT_inj {j k : D} {p q : List Key} (hj : keyT j = some p) (hk : keyT k = some q) (e : p = q) : j = k := by
  subst e
  cases j <;> simp [keyT] at hj
  cases k <;> simp [keyT] at hk
  rw [keysOf_inj hj hk]
theorem keyOf_of {k : D} (h : k.isKey0 = true) : ∃ q, keyOf k = some q := by
  cases k <;> simp [D.isKey0] at h
  · exact ⟨_, rfl⟩
  · exact ⟨_, rfl⟩
theorem keysOf_of : ∀ {xs : List D}, xs.all D.isKey0 = true → ∃ ks, keysOf xs = some ks
  | [], _ => ⟨[], rfl⟩
  | x :: xs, h => by
    simp only [List.all_cons, Bool.and_eq_true] at h
    obtain ⟨q, e1⟩ := keyOf_of h.1
    obtain ⟨ks, e2⟩ := keysOf_of h.2
    exact ⟨q :: ks, by simp [keysOf, e1, e2]⟩
theorem keyT_of {k : D} (h : k.isKey1 = true) : ∃ q, keyT k = some q := by
  cases k <;> simp [D.isKey1] at h
  exact keysOf_of (by simpa using h)
section
variable {T : Tb} {W : Wd} {st : Sto} {H : Hp}
theorem Rep.key {k : D} {v : V} {q : Key} (r : Rep T W st H k v) (hk : keyOf k = some q) : v = kV q := by
  cases r <;> simp [keyOf] at hk <;> (subst hk; rfl)
theorem Reps.keys : ∀ {ks : List D} {vs : List V} {q : List Key}, Reps T W st H ks vs → keysOf ks = some q → vs = q.map kV
  | _, _, _, .nil, e => by cases e; rfl
  | _, _, _, .cons (d := d) (ds := ds) h r, e => by
    simp only [keysOf] at e
    split at e
    · rename_i k ks e1 e2
      cases e
      rw [List.map_cons, ← h.key e1, ← r.keys e2]
    · cases e
theorem Rep.keyT {k : D} {v : V} {q : List Key} (r : Rep T W st H k v) (hk : Mi.keyT k = some q) : ∃ b, v = .ref b ∧ H b = some (.tup (q.map kV)) := by
  cases r <;> simp [Mi.keyT] at hk
  rename_i xs a vs h r
  exact ⟨a, rfl, by rw [← r.keys hk]; exact h⟩
theorem RepK.get {k : D} {q : Key} (hk : keyOf k = some q) : ∀ {kvs : List (D × D)} {vs : List (Key × V)}, RepK T W st H kvs vs → (getK kvs k = none ∧ valV vs q = none) ∨ ∃ d v, getK kvs k = some d ∧ valV vs q = some v ∧ Rep T W st H d v
  | _, _, .nil => .inl ⟨rfl, rfl⟩
  | _, _, .cons (k := j) (q := p) hj h r => by
    by_cases e : j = k
    · have e2 : p = q := Option.some.inj (by rw [← hj, ← hk, e])
      exact .inr ⟨_, _, by simp [getK, e], valV_pos e2, h⟩
    · have e2 : ¬ p = q := fun z => e (keyOf_inj hj hk z)
      rcases RepK.get hk r with ⟨a, b⟩ | ⟨d, v, a, b, c⟩
      · exact .inl ⟨by simp [getK, e, a], by rw [valV_neg e2]; exact b⟩
      · exact .inr ⟨d, v, by simp [getK, e, a], by rw [valV_neg e2]; exact b, c⟩
theorem RepK.any {k : D} {q : Key} (hk : keyOf k = some q) : ∀ {kvs : List (D × D)} {vs : List (Key × V)}, RepK T W st H kvs vs → (vs.any fun kv => decide (kv.1 = q)) = kvs.any fun p => decide (p.1 = k)
  | _, _, .nil => rfl
  | _, _, .cons (k := j) (q := p) hj h r => by
    have e2 : decide (p = q) = decide (j = k) := decide_eq_decide.mpr ⟨keyOf_inj hj hk, fun e => Option.some.inj (by rw [← hj, ← hk, e])⟩
    simp only [List.any_cons, e2, RepK.any hk r]
theorem RepK.repl {k d : D} {q : Key} {v : V} (hk : keyOf k = some q) (hd : Rep T W st H d v) : ∀ {kvs : List (D × D)} {vs : List (Key × V)}, RepK T W st H kvs vs → RepK T W st H (kvs.map fun p => if p.1 = k then (p.1, d) else p) (vs.map fun kv => if kv.1 = q then (kv.1, v) else kv)
  | _, _, .nil => .nil
  | _, _, .cons (k := j) (q := p) hj h r => by
    simp only [List.map_cons]
    by_cases e : j = k
    · have e2 : p = q := Option.some.inj (by rw [← hj, ← hk, e])
      rw [if_pos e, if_pos e2]
      exact .cons hj hd (RepK.repl hk hd r)
    · have e2 : ¬ p = q := fun z => e (keyOf_inj hj hk z)
      rw [if_neg e, if_neg e2]
      exact .cons hj h (RepK.repl hk hd r)
theorem RepK.app {k d : D} {q : Key} {v : V} (hk : keyOf k = some q) (hd : Rep T W st H d v) : ∀ {kvs : List (D × D)} {vs : List (Key × V)}, RepK T W st H kvs vs → RepK T W st H (kvs ++ [(k, d)]) (vs ++ [(q, v)])
  | _, _, .nil => .cons hk hd .nil
  | _, _, .cons hj h r => .cons hj h (RepK.app hk hd r)
theorem RepK.put {k d : D} {q : Key} {v : V} (hk : keyOf k = some q) (hd : Rep T W st H d v) {kvs : List (D × D)} {vs : List (Key × V)} (r : RepK T W st H kvs vs) : RepK T W st H (putK kvs k d) (L2.putK vs q v) := by
  unfold putK L2.putK
  rw [RepK.any hk r]
  split
  · exact RepK.repl hk hd r
  · exact RepK.app hk hd r
theorem RepK.length : ∀ {kvs : List (D × D)} {vs : List (Key × V)}, RepK T W st H kvs vs → vs.length = kvs.length
  | _, _, .nil => rfl
  | _, _, .cons _ _ r => by simp [r.length]
theorem RepT.get {k : D} {q : List Key} (hk : keyT k = some q) : ∀ {kvs : List (D × D)} {vs : List (List Key × V)}, RepT T W st H kvs vs → (getK kvs k = none ∧ valV vs q = none) ∨ ∃ d v, getK kvs k = some d ∧ valV vs q = some v ∧ Rep T W st H d v
  | _, _, .nil => .inl ⟨rfl, rfl⟩
  | _, _, .cons (k := j) (q := p) hj h r => by
    by_cases e : j = k
    · have e2 : p = q := Option.some.inj (by rw [← hj, ← hk, e])
      exact .inr ⟨_, _, by simp [getK, e], valV_pos e2, h⟩
    · have e2 : ¬ p = q := fun z => e (keyT_inj hj hk z)
      rcases RepT.get hk r with ⟨a, b⟩ | ⟨d, v, a, b, c⟩
      · exact .inl ⟨by simp [getK, e, a], by rw [valV_neg e2]; exact b⟩
      · exact .inr ⟨d, v, by simp [getK, e, a], by rw [valV_neg e2]; exact b, c⟩
theorem RepT.any {k : D} {q : List Key} (hk : keyT k = some q) : ∀ {kvs : List (D × D)} {vs : List (List Key × V)}, RepT T W st H kvs vs → (vs.any fun kv => decide (kv.1 = q)) = kvs.any fun p => decide (p.1 = k)
  | _, _, .nil => rfl
  | _, _, .cons (k := j) (q := p) hj h r => by
    have e2 : decide (p = q) = decide (j = k) := decide_eq_decide.mpr ⟨keyT_inj hj hk, fun e => Option.some.inj (by rw [← hj, ← hk, e])⟩
    simp only [List.any_cons, e2, RepT.any hk r]
theorem RepT.repl {k d : D} {q : List Key} {v : V} (hk : keyT k = some q) (hd : Rep T W st H d v) : ∀ {kvs : List (D × D)} {vs : List (List Key × V)}, RepT T W st H kvs vs → RepT T W st H (kvs.map fun p => if p.1 = k then (p.1, d) else p) (vs.map fun kv => if kv.1 = q then (kv.1, v) else kv)
  | _, _, .nil => .nil
  | _, _, .cons (k := j) (q := p) hj h r => by
    simp only [List.map_cons]
    by_cases e : j = k
    · have e2 : p = q := Option.some.inj (by rw [← hj, ← hk, e])
      rw [if_pos e, if_pos e2]
      exact .cons hj hd (RepT.repl hk hd r)
    · have e2 : ¬ p = q := fun z => e (keyT_inj hj hk z)
      rw [if_neg e, if_neg e2]
      exact .cons hj h (RepT.repl hk hd r)
theorem RepT.app {k d : D} {q : List Key} {v : V} (hk : keyT k = some q) (hd : Rep T W st H d v) : ∀ {kvs : List (D × D)} {vs : List (List Key × V)}, RepT T W st H kvs vs → RepT T W st H (kvs ++ [(k, d)]) (vs ++ [(q, v)])
  | _, _, .nil => .cons hk hd .nil
  | _, _, .cons hj h r => .cons hj h (RepT.app hk hd r)
theorem RepT.put {k d : D} {q : List Key} {v : V} (hk : keyT k = some q) (hd : Rep T W st H d v) {kvs : List (D × D)} {vs : List (List Key × V)} (r : RepT T W st H kvs vs) : RepT T W st H (putK kvs k d) (L2.putK vs q v) := by
  unfold putK L2.putK
  rw [RepT.any hk r]
  split
  · exact RepT.repl hk hd r
  · exact RepT.app hk hd r
theorem RepT.length : ∀ {kvs : List (D × D)} {vs : List (List Key × V)}, RepT T W st H kvs vs → vs.length = kvs.length
  | _, _, .nil => rfl
  | _, _, .cons _ _ r => by simp [r.length]
/-- a dict to be read: frozen or live -/
theorem Rep.dct (A : Abs T W st H) {d : D} {v : V} {kvs : List (D × D)} (e : dctOf st d = some kvs) (r : Rep T W st H d v) :
    ∃ a, v = .ref a ∧ ((∃ vs, Rd H a (.dK vs) ∧ RepK T W st H kvs vs) ∨ ∃ vs, Rd H a (.dT vs) ∧ RepT T W st H kvs vs) := by
  cases r <;> simp [dctOf] at e
  · subst e; rename_i a vs h r; exact ⟨a, rfl, .inl ⟨vs, h.rd, r⟩⟩
  · subst e; rename_i a vs h r; exact ⟨a, rfl, .inr ⟨vs, h.rd, r⟩⟩
  · rename_i l a h
    split at e
    · rename_i xs e1
      cases e
      rcases A.cell l _ a e1 h with ⟨vs, e2, r⟩ | ⟨vs, e2, r⟩
      · exact ⟨a, rfl, .inl ⟨vs, .inl e2, r⟩⟩
      · exact ⟨a, rfl, .inr ⟨vs, .inl e2, r⟩⟩
    · cases e
/-- the empty dict that is asked by a key of the other kind -/
def DGet0 (H : Hp) (a : Addr) (y : V) : Prop := (∃ k : Key, Rd H a (.dT []) ∧ y = kV k) ∨ ∃ (k : List Key) (b : Addr), Rd H a (.dK []) ∧ y = .ref b ∧ H b = some (.tup (k.map kV))
theorem Rep.dget (A : Abs T W st H) {d k : D} {v y : V} {kvs : List (D × D)} (e : dctOf st d = some kvs) (r : Rep T W st H d v) (ry : Rep T W st H k y) (hf : keysFit kvs k = true) :
    ∃ a, v = .ref a ∧ ((kvs = [] ∧ DGet0 H a y) ∨ ((getK kvs k = none ∧ DGet H a y none) ∨ ∃ d' v', getK kvs k = some d' ∧ DGet H a y (some v') ∧ Rep T W st H d' v')) := by
  obtain ⟨a, rfl, h⟩ := r.dct A e
  refine ⟨a, rfl, ?_⟩
  unfold keysFit at hf
  simp only [Bool.or_eq_true, Bool.and_eq_true] at hf
  rcases hf with ⟨hk, hall⟩ | ⟨hk, hall⟩
  · obtain ⟨q, e1⟩ := keyOf_of hk
    have ey := ry.key e1
    rcases h with ⟨vs, e2, r2⟩ | ⟨vs, e2, r2⟩
    · rcases r2.get e1 with ⟨z1, z2⟩ | ⟨d', v', z1, z2, z3⟩
      · exact .inr (.inl ⟨z1, .inl ⟨vs, q, e2, ey, z2.symm⟩⟩)
      · exact .inr (.inr ⟨d', v', z1, .inl ⟨vs, q, e2, ey, z2.symm⟩, z3⟩)
    · cases r2 with
      | nil => exact .inl ⟨rfl, .inl ⟨q, e2, ey⟩⟩
      | @cons k0 d0 q0 v0 ds0 vs0 hj _ _ =>
        exfalso
        have z : k0.isKey0 = true := by simp at hall; exact hall.1
        cases k0 <;> simp [D.isKey0] at z <;> simp [Mi.keyT] at hj
  · obtain ⟨q, e1⟩ := keyT_of hk
    obtain ⟨b, ey, eb⟩ := ry.keyT e1
    rcases h with ⟨vs, e2, r2⟩ | ⟨vs, e2, r2⟩
    · cases r2 with
      | nil => exact .inl ⟨rfl, .inr ⟨q, b, e2, ey, eb⟩⟩
      | @cons k0 d0 q0 v0 ds0 vs0 hj _ _ =>
        exfalso
        have z : k0.isKey1 = true := by simp at hall; exact hall.1
        cases k0 <;> simp [D.isKey1] at z <;> simp [keyOf] at hj
    · rcases r2.get e1 with ⟨z1, z2⟩ | ⟨d', v', z1, z2, z3⟩
      · exact .inr (.inl ⟨z1, .inr ⟨vs, q, b, e2, ey, eb, z2.symm⟩⟩)
      · exact .inr (.inr ⟨d', v', z1, .inr ⟨vs, q, b, e2, ey, eb, z2.symm⟩, z3⟩)
end
theorem dT_of_dK {P : Program} {w : World} {H H' : Hp} {h : Heap} {a : Addr} (o : ObjOk P w H h a (.dK [])) : ObjOk P w H' h a (.dT []) := by
  obtain ⟨z, y, vs, r, ob, es, ep, e1, e2, e3, e4, e5, e6⟩ := o
  cases r
  have he : es.toList = [] := by
    cases q : es.toList with
    | nil => rfl
    | cons x xs => rw [q] at e5; cases e5
  exact ⟨z, y, [], .nil, ob, es, ep, e1, e2, e3, he, List.nodup_nil⟩
theorem dK_of_dT {P : Program} {w : World} {H H' : Hp} {h : Heap} {a : Addr} (o : ObjOk P w H h a (.dT [])) : ObjOk P w H' h a (.dK []) := by
  obtain ⟨z, y, vs, r, ob, es, ep, e1, e2, e3, e4, e5⟩ := o
  cases r
  have he : es.toList = [] := e4
  refine ⟨z, y, [], .nil, ob, es, ep, e1, e2, e3, fun e hm => ?_, ?_, List.nodup_nil⟩
  · have : e ∈ es.toList := by simpa using hm
    rw [he] at this
    cases this
  · rw [he]; exact .nil
theorem Inv.swap {X : Cx} {pins : List (Addr × Obj)} {σ : L2.St} {H : Hp} {s : Shared} {a : Addr} {o o' : HO} (I : L2.Inv X pins σ H s) (h : H a = some o) (hm : Mut (H a)) (hn : ∀ ps, o ≠ .tbl ps) (hf : ∀ b u, o ≠ .frz b u)
    (t : ObjOk X.prog X.w (upd H a o') s.heap a o') (he : ∃ u, s.heap.get? a = some u) : L2.Inv X pins σ (upd H a o') s := by
  obtain ⟨u, hu⟩ := he
  exact I.write (t' := s.toks) (x := a) (e := a) (h' := s.heap) hm (.inl rfl) (fun _ _ _ q => q) ⟨u, hu⟩ t
theorem Inv.toT {X : Cx} {pins : List (Addr × Obj)} {σ : L2.St} {H : Hp} {s : Shared} {a : Addr} (I : L2.Inv X pins σ H s) (h : H a = some (.dK [])) : L2.Inv X pins σ (upd H a (.dT [])) s :=
  Inv.swap I h (by rw [h]; trivial) (fun _ z => by cases z) (fun _ _ z => by cases z) (dT_of_dK (I.hok a _ h)) (by obtain ⟨_, _, _, _, ob, _, _, e, _⟩ := I.hok a _ h; exact ⟨ob, e⟩)
theorem Inv.toK {X : Cx} {pins : List (Addr × Obj)} {σ : L2.St} {H : Hp} {s : Shared} {a : Addr} (I : L2.Inv X pins σ H s) (h : H a = some (.dT [])) : L2.Inv X pins σ (upd H a (.dK [])) s :=
  Inv.swap I h (by rw [h]; trivial) (fun _ z => by cases z) (fun _ _ z => by cases z) (dK_of_dT (I.hok a _ h)) (by obtain ⟨_, _, _, _, ob, _, _, e, _⟩ := I.hok a _ h; exact ⟨ob, e⟩)
section
variable {X : Cx} {pins : List (Addr × Obj)} {σ : L2.St} {H : Hp} {s : Shared} {a : Addr} {y d : V} {u r : Value} {A : Around} {E : Value → Shared → Prop}
theorem dk0 (I : L2.Inv X pins σ H s) (e : Rd H a (.dT [])) : (a == sysModules) = false ∧ s.heap.DictOf (mixKind X.prog X.w) a [] := by
  obtain ⟨z, hd, vs, rel, dd⟩ := dK_of_dT (H' := H) (e.ok I.hok)
  cases rel
  exact ⟨hd, dd⟩
theorem dt0 (I : L2.Inv X pins σ H s) (e : Rd H a (.dK [])) : (a == sysModules) = false ∧ s.heap.DictOfH (tupleKind (mixKind X.prog X.w)) a [] := by
  obtain ⟨z, hd, vs, rel, o, es, ep, e1, e2, e3, e4, e5⟩ := dT_of_dK (H' := H) (e.ok I.hok)
  cases rel
  exact ⟨hd, o, es, ep, e1, e2, e3, e4, fun _ z => (nomatch z), e5⟩
theorem d_in0 {Q : Value → Shared → Prop} (hu : A.units + 1 < cLine) (I : L2.Inv X pins σ H s) (g : DGet0 H a y) (ry : RelV y u) (h : ∀ s', L2.Inv X pins σ H s' → Q (.bool false) s') :
    wpAny (model X.prog X.w) A (compareOp .In u (.ref a)) Q E s := by
  rcases g with ⟨k, e, ey⟩ | ⟨k, b, e, ey, eb⟩
  · subst ey
    obtain ⟨hd, dd⟩ := dk0 I e
    exact wpAny_in_of (kV_is ry) hd dd.mapOf (h _ (I.tok _))
  · subst ey
    cases (show u = Value.ref b from ry)
    obtain ⟨hd, dd⟩ := dt0 I e
    exact wpAny_in_heap (tupleKind_room_in1 hu) (key_of I.hok eb) hd dd (h _ (I.tok _))
theorem d_notIn0 {Q : Value → Shared → Prop} (hu : A.units + 1 < cLine) (I : L2.Inv X pins σ H s) (g : DGet0 H a y) (ry : RelV y u) (h : ∀ s', L2.Inv X pins σ H s' → Q (.bool true) s') :
    wpAny (model X.prog X.w) A (compareOp .NotIn u (.ref a)) Q E s := by
  rcases g with ⟨k, e, ey⟩ | ⟨k, b, e, ey, eb⟩
  · subst ey
    obtain ⟨hd, dd⟩ := dk0 I e
    exact wpAny_notIn_of (kV_is ry) hd dd.mapOf (h _ (I.tok _))
  · subst ey
    cases (show u = Value.ref b from ry)
    obtain ⟨hd, dd⟩ := dt0 I e
    exact PyProof.Rows.wpAny_notIn_heap (tupleKind_room_in1 hu) (key_of I.hok eb) hd dd (h _ (I.tok _))
end
section
variable {X : Cx} {T : Tb}
/-- a list or tuple to be read -/
theorem Rep.lstR {K : PySem.W.Frag} {W : Wd} {st : Sto} {H : Hp} (A : Abs T W st H) {d : D} {v : V} {xs : List D} (e : lstOf st d = some xs) (r : Rep T W st H d v) : ∃ a vs, v = .ref a ∧ Reps T W st H xs vs ∧ SqL K H a vs := by
  cases r <;> simp [lstOf] at e
  · subst e; rename_i a vs h r; exact ⟨a, vs, rfl, r, Fl.sql h⟩
  · rename_i l a h
    split at e
    · rename_i ys e3
      cases e
      obtain ⟨vs, e4, r⟩ := A.cell l _ a e3 h
      exact ⟨a, vs, rfl, r, SqL.of e4⟩
    · cases e
theorem Rep.seq {K : PySem.W.Frag} {W : Wd} {st : Sto} {H : Hp} (A : Abs T W st H) {d : D} {v : V} {xs : List D} (e : seqOf st d = some xs) (r : Rep T W st H d v) : ∃ a vs, v = .ref a ∧ Reps T W st H xs vs ∧ (SqL K H a vs ∨ SqT K H a vs) := by
  cases d with
  | tup ys =>
    cases e
    cases r with
    | tup h r => exact ⟨_, _, rfl, r, .inr (SqT.of h)⟩
  | lst ys => obtain ⟨a, vs, h1, h2, h3⟩ := r.lstR A (K := K) (show lstOf st (.lst ys) = some xs from e); exact ⟨a, vs, h1, h2, .inl h3⟩
  | loc l => obtain ⟨a, vs, h1, h2, h3⟩ := r.lstR A (K := K) (show lstOf st (.loc l) = some xs from e); exact ⟨a, vs, h1, h2, .inl h3⟩
  | _ => cases e
def rInA (X : Cx) (T : Tb) (neg : Bool) : R2 := fun x y H Q =>
  (∃ a o, y = .ref a ∧ DGet H a x o ∧ Q (.bl (neg != o.isSome)) H) ∨ (∃ a, y = .ref a ∧ DGet0 H a x ∧ Q (.bl neg) H) ∨
  (∃ c z, x = .str ⟨#[c]⟩ ∧ y = .str z ∧ Q (.bl (neg != decide (c ∈ z.cps.toList))) H) ∨
  ∃ d ds, Dp X.K H x d ∧ (Dp X.K H y (.list ds) ∨ Dp X.K H y (.tuple ds)) ∧ SeqAt.shaped d = true ∧ SeqAt.shaped (.list ds) = true ∧ Q (.bl (neg != ds.any fun z => PyData.eqv z d)) H
theorem room_sh {d : PyData} {A : Around} {n : Nat} (hd : SeqAt.shaped d = true) (hu : A.units + 66 < cLine) : A.units + 1 + min n d.depth < cLine := by
  have := SeqAt.depth_of_shaped hd
  have h2 : min n d.depth ≤ d.depth := Nat.min_le_right _ _
  omega
theorem op_inA (hu : X.A.units + 66 < cLine) : OpR X (compareOp .In) (rInA X T false) := by
  intro pins s σ H x y v u Q I rx ry h
  rcases h with ⟨a, o, rfl, g, q⟩ | ⟨a, rfl, g, q⟩ | ⟨c, z, ex, ey, q⟩ | ⟨d, ds, hd, he, sd, se, q⟩
  · cases ry
    exact d_in (by omega) I g rx fun s' I' => ⟨.bl _, H, I', rfl, by simpa using q⟩
  · cases ry
    exact d_in0 (by omega) I g rx fun s' I' => ⟨.bl _, H, I', rfl, q⟩
  · exact op_in_sign pins s σ H x y v u Q I rx ry ⟨c, z, ex, ey, by simpa using q⟩
  · obtain ⟨as, r1⟩ := Dp.reads I d x v hd rx
    rcases he with he | he
    · obtain ⟨bs, r2⟩ := Dp.reads I (.list ds) y u he ry
      exact SeqAt.in_list_reads r2 r1 (SeqAt.canLay_of_shaped se) (SeqAt.canLay_of_shaped sd) (room_sh sd hu) ⟨.bl _, H, I, rfl, by simpa using q⟩
    · obtain ⟨bs, r2⟩ := Dp.reads I (.tuple ds) y u he ry
      exact SeqAt.in_tuple_reads r2 r1 (SeqAt.canLay_of_shaped se) (SeqAt.canLay_of_shaped sd) (room_sh sd hu) ⟨.bl _, H, I, rfl, by simpa using q⟩
theorem op_notInA (hu : X.A.units + 66 < cLine) : OpR X (compareOp .NotIn) (rInA X T true) := by
  intro pins s σ H x y v u Q I rx ry h
  rcases h with ⟨a, o, rfl, g, q⟩ | ⟨a, rfl, g, q⟩ | ⟨c, z, ex, ey, q⟩ | ⟨d, ds, hd, he, sd, se, q⟩
  · cases ry
    exact d_notIn (by omega) I g rx fun s' I' => ⟨.bl _, H, I', rfl, by simpa using q⟩
  · cases ry
    exact d_notIn0 (by omega) I g rx fun s' I' => ⟨.bl _, H, I', rfl, q⟩
  · exact op_notIn_sign pins s σ H x y v u Q I rx ry ⟨c, z, ex, ey, by simpa using q⟩
  · obtain ⟨as, r1⟩ := Dp.reads I d x v hd rx
    rcases he with he | he
    · obtain ⟨bs, r2⟩ := Dp.reads I (.list ds) y u he ry
      exact SeqAt.notIn_list_reads r2 r1 (SeqAt.canLay_of_shaped se) (SeqAt.canLay_of_shaped sd) (room_sh sd hu) ⟨.bl _, H, I, rfl, by simpa using q⟩
    · obtain ⟨bs, r2⟩ := Dp.reads I (.tuple ds) y u he ry
      exact SeqAt.notIn_tuple_reads r2 r1 (SeqAt.canLay_of_shaped se) (SeqAt.canLay_of_shaped sd) (room_sh sd hu) ⟨.bl _, H, I, rfl, by simpa using q⟩
theorem dec_mem (c : Nat) (s : List Nat) : decide (c ∈ (strOf s).cps.toList) = decide (c ∈ s) := decide_eq_decide.mpr (by simp [strOf])
theorem any_eqv {d : D} {n : Nat} (hd : d.flat n = true) : ∀ {xs : List D} {m : Nat}, flatL m xs = true → ((toPyL xs).any fun z => PyData.eqv z (toPy d)) = memD d xs
  | [], _, _ => rfl
  | x :: xs, m, h => by
    have h' : x.flat m = true ∧ flatL m xs = true := by simpa [flatL] using h
    have ih := any_eqv hd h'.2
    unfold memD at ih ⊢
    simp only [toPyL, List.any_cons, eqv_of x d m n h'.1 hd, ih]
theorem in_sound {W : Wd} {st : Sto} {H : Hp} {neg b : Bool} {da db : D} {x y : V} {Q : VK} (A : Abs T W st H) (ra : Rep T W st H da x) (rb : Rep T W st H db y) (e : inB st da db = some b) (q : Q (.bl (neg != b)) H) : rInA X T neg x y H Q := by
  unfold inB at e
  split at e
  · rename_i kvs e1
    split at e
    · rename_i hf
      cases e
      obtain ⟨a, rfl, h⟩ := rb.dget A e1 ra hf
      rcases h with ⟨z, g⟩ | ⟨z, g⟩ | ⟨d', v', z, g, _⟩
      · subst z
        exact .inr (.inl ⟨a, rfl, g, by simpa [getK] using q⟩)
      · exact .inl ⟨a, none, rfl, g, by rw [z] at q; exact q⟩
      · exact .inl ⟨a, _, rfl, g, by rw [z] at q; exact q⟩
    · cases e
  · split at e
    · rename_i s
      cases rb
      split at e
      · rename_i c
        cases e
        cases ra
        refine .inr (.inr (.inl ⟨c, _, rfl, rfl, ?_⟩))
        rw [dec_mem]; exact q
      · cases e
    · split at e
      · rename_i xs e2
        split at e
        · rename_i hf
          simp only [Bool.and_eq_true] at hf
          cases e
          refine .inr (.inr (.inr ⟨toPy da, toPyL xs, ra.dp 50 hf.1, ?_, shaped_of hf.1 (by decide), shaped_of (n := 51) (d := .lst xs) (by simpa [D.flat] using hf.2) (by decide), by rw [any_eqv hf.1 hf.2]; exact q⟩))
          obtain ⟨a, vs, rfl, r, hs⟩ := rb.seq A e2
          rcases hs with hs | hs
          · exact .inl (.lst hs (r.dp 50 hf.2))
          · exact .inr (.tup hs (r.dp 50 hf.2))
        · cases e
      · cases e
theorem cm_in (hu : X.A.units + 66 < cLine) : Cm X T .In vIn (rInA X T false) where
  ok := op_inA hu
  sound := by
    intro W st H da db d x y Q A ra rb e h
    unfold vIn at e
    cases e1 : inB st da db with
    | none => rw [e1] at e; cases e
    | some b =>
      rw [e1] at e; cases e
      exact in_sound A ra rb e1 (by simpa using stay A h (.bl b))
  bool := by
    intro st da db d e
    unfold vIn at e
    cases e1 : inB st da db <;> rw [e1] at e <;> cases e
    exact ⟨_, rfl⟩
theorem cm_notin (hu : X.A.units + 66 < cLine) : Cm X T .NotIn vNotIn (rInA X T true) where
  ok := op_notInA hu
  sound := by
    intro W st H da db d x y Q A ra rb e h
    unfold vNotIn at e
    cases e1 : inB st da db with
    | none => rw [e1] at e; cases e
    | some b =>
      rw [e1] at e; cases e
      exact in_sound A ra rb e1 (by simpa using stay A h (.bl (!b)))
  bool := by
    intro st da db d e
    unfold vNotIn at e
    cases e1 : inB st da db <;> rw [e1] at e <;> cases e
    exact ⟨_, rfl⟩
end
end Mi
end
section
set_option Elab.async false
set_option linter.all false
set_option maxRecDepth 100000
set_option autoImplicit false
namespace Mi
open PySem L2
section
variable {X : Cx} {T : Tb} {Wx : WX} {a b c : Expr} {es rest : List Expr} {ma mb mc : XE} {ta tb : XT} {mr : XA} {pos : Pos}
theorem sizeOk {xs : List D} {vs : List V} {W : Wd} {st : Sto} {H : Hp} (r : Reps T W st H xs vs) (h : xs.length ≤ szL) : vs.length ≤ sizeLine := by rw [r.length, ← szL_eq]; exact h
theorem tru_of {W : Wd} {st : Sto} {H : Hp} (A : Abs T W st H) {d : D} {v : V} {k : Bool} (r : Rep T W st H d v) (e : truth st d = some k) : TruV X.K v H k := by
  cases d with
  | non => cases r; cases e; rfl
  | bl b => cases r; cases e; rfl
  | int i => cases r; cases e; show decide (i ≠ 0) = (i != 0); simp [bne, BEq.beq]
  | str s =>
    cases r
    simp only [truth] at e
    split at e
    · rename_i hz
      cases e
      refine ⟨by rw [← szL_eq]; simpa [strOf, PySem.Str.length] using hz, ?_⟩
      have : (strOf s).length = s.length := by simp [strOf, PySem.Str.length]
      rw [this]
      cases s with
      | nil => rfl
      | cons x xs =>
        have : ((xs.length : Int) + 1 != 0) = true := by
          rw [bne_iff_ne]; omega
        simpa using this
    · cases e
  | tup xs =>
    cases r with
    | tup h r => cases e; exact .inr (.inl ⟨_, SqT.of h, by rw [r.isEmpty]⟩)
  | lst xs =>
    obtain ⟨a, vs, rfl, r2, hs⟩ := r.lstR (K := X.K) A (show lstOf st (.lst xs) = some xs from rfl)
    cases e
    exact .inl ⟨vs, hs, by rw [r2.isEmpty]⟩
  | loc l =>
    simp only [truth] at e
    split at e
    · rename_i xs e1
      cases e
      obtain ⟨a, vs, rfl, r2, hs⟩ := r.lstR (K := X.K) A e1
      exact .inl ⟨vs, hs, by rw [r2.isEmpty]⟩
    · cases e
  | dct _ => cases e
  | ins _ _ => cases e
  | scr _ => cases e
  | exn => cases e
/-- a value as a test -/
theorem mt_v (ha : ME X T Wx a ma) (he : ∀ whole, isTrue a X.env whole = (do let v ← whole; standAt a.pos; holding [v] (truthy v)) := by intro _; rfl) : MT X T Wx a (tV ma) := by
  refine PT.imp (pt_truth ha he) fun σ H Q ⟨W, st, σd, A, h⟩ => ?_
  refine step A h fun W1 st1 H1 d x a1 g1 r1 h1 => ?_
  obtain ⟨k, e, h1⟩ := OutG.opt h1
  exact ⟨k, tru_of a1.abs r1 e, OutG.now h1 a1.abs rfl⟩
theorem mt_not (ha : MT X T Wx a ta) : MT X T Wx (.UnaryOp .Not a pos) (Mi.tNot ta) := by
  refine PT.imp (pt_not ha) fun σ H Q ⟨W, st, σd, A, h⟩ => ?_
  refine step A h fun W1 st1 H1 d x a1 g1 r1 h1 => ?_
  cases r1
  exact OutG.now h1 a1.abs rfl
theorem mw_and1 (ha : MT X T Wx a ta) : MW X T Wx (.BoolOp .And [a] pos) ta := pw_and1 ha
theorem mw_or1 (ha : MT X T Wx a ta) : MW X T Wx (.BoolOp .Or [a] pos) ta := pw_or1 ha
theorem mw_and (ha : MT X T Wx a ta) (hb : MW X T Wx (.BoolOp .And (b :: rest) pos) tb) : MW X T Wx (.BoolOp .And (a :: b :: rest) pos) (Mi.tAnd ta tb) := by
  refine PW.imp (pw_and ha hb) fun σ H Q ⟨W, st, σd, A, h⟩ => ?_
  refine step A h fun W1 st1 H1 d x a1 g1 r1 h1 => ?_
  cases r1
  cases d with
  | true => exact iteT ⟨W1, st1, σd, a1, h1⟩
  | false => exact iteF (OutG.now h1 a1.abs rfl)
theorem mw_or (ha : MT X T Wx a ta) (hb : MW X T Wx (.BoolOp .Or (b :: rest) pos) tb) : MW X T Wx (.BoolOp .Or (a :: b :: rest) pos) (Mi.tOr ta tb) := by
  refine PW.imp (pw_or ha hb) fun σ H Q ⟨W, st, σd, A, h⟩ => ?_
  refine step A h fun W1 st1 H1 d x a1 g1 r1 h1 => ?_
  cases r1
  cases d with
  | true => exact iteT (OutG.now h1 a1.abs rfl)
  | false => exact iteF ⟨W1, st1, σd, a1, h1⟩
theorem mt_w (h : MW X T Wx a ta) : MT X T Wx a ta := PW.pt h
/-- .. as values -/
theorem me_one {op} (h : ME X T Wx a ma) : ME X T Wx (.BoolOp op [a] pos) ma := pe_one h
theorem me_and (ha : ME X T Wx a ma) (hb : ME X T Wx (.BoolOp .And (b :: rest) pos) mb) : ME X T Wx (.BoolOp .And (a :: b :: rest) pos) (xAnd ma mb) := by
  refine PE.imp (pe_andT ha hb) fun σ H Q ⟨W, st, σd, A, h⟩ => ?_
  refine step A h fun W1 st1 H1 d x a1 g1 r1 h1 => ?_
  cases e : truth st1 d with
  | none => rw [e] at h1; exact False.elim h1
  | some k =>
    rw [e] at h1
    refine ⟨k, tru_of a1.abs r1 e, ?_⟩
    cases k with
    | true => exact iteT ⟨W1, st1, σd, a1, h1⟩
    | false => exact iteF (OutG.now h1 a1.abs r1)
theorem me_not (ha : ME X T Wx a ma) : ME X T Wx (.UnaryOp .Not a pos) (xNot ma) := by
  refine PE.imp (pe_notT ha) fun σ H Q ⟨W, st, σd, A, h⟩ => ?_
  refine step A h fun W1 st1 H1 d x a1 g1 r1 h1 => ?_
  cases e : truth st1 d with
  | none => rw [e] at h1; exact False.elim h1
  | some k =>
    rw [e] at h1
    exact ⟨k, tru_of a1.abs r1 e, OutG.now h1 a1.abs (.bl _)⟩
theorem me_if {t : Expr} (ht : MT X T Wx t ta) (ha : ME X T Wx a ma) (hb : ME X T Wx b mb) : ME X T Wx (.IfExp t a b pos) (xIf ta ma mb) := by
  refine PE.imp (pe_ifExp ht ha hb) fun σ H Q ⟨W, st, σd, A, h⟩ => ?_
  refine step A h fun W1 st1 H1 d x a1 g1 r1 h1 => ?_
  cases r1
  cases d with
  | true => exact iteT ⟨W1, st1, σd, a1, h1⟩
  | false => exact iteF ⟨W1, st1, σd, a1, h1⟩
theorem chain_imp {op op' : CmpOp} {g g' : Sto → D → D → Option D} {r r' : R2} (C : Cm X T op g r) (C' : Cm X T op' g' r') {σ : L2.St} {H : Hp} {Q : VK} (h : lE T Wx (xChain g g' ma mb mc) σ H Q) : L2.tChain r r' (lE T Wx ma) (lE T Wx mb) (lE T Wx mc) σ H Q := by
  obtain ⟨W, st, σd, A, h⟩ := h
  refine step A h fun W1 st1 H1 da x a1 g1 r1 h1 => ?_
  refine step a1 h1 fun W2 st2 H2 db y a2 g2 r2 h2 => ?_
  cases e : g st2 da db with
  | none => rw [e] at h2; exact False.elim h2
  | some d =>
    obtain ⟨k, rfl⟩ := C.bool _ _ _ _ e
    rw [e] at h2
    refine C.sound W2 st2 H2 da db (.bl k) x y _ a2.abs (r1.mono a1.abs g2) r2 e fun W3 H3 v g3 A3 r3 => ?_
    cases r3
    refine ⟨k, rfl, ?_⟩
    have a3 := a2.mono g3 A3
    have h3 := OutG.shift g3 h2
    cases k with
    | true =>
      refine iteT ?_
      refine step a3 h3 fun W4 st4 H4 dc z a4 g4 r4 h4 => ?_
      obtain ⟨d', e', h4⟩ := OutG.opt h4
      exact C'.sound W4 st4 H4 db dc d' y z Q a4.abs ((r2.mono a2.abs g3).mono a3.abs g4) r4 e' h4
    | false => exact iteF (OutG.now h3 a3.abs (.bl false))
theorem me_chain {op op' : CmpOp} {g g' : Sto → D → D → Option D} {r r' : R2} (C : Cm X T op g r) (C' : Cm X T op' g' r') (ha : ME X T Wx a ma) (hb : ME X T Wx b mb) (hc : ME X T Wx c mc)
    (hm : lastMarks [op, op'] [b, c] = false := by with_unfolding_all rfl) : ME X T Wx (.Compare a [op, op'] [b, c] pos) (xChain g g' ma mb mc) :=
  PE.imp (pe_chain C.ok C'.ok ha hb hc hm) fun σ H Q h => chain_imp C C' h
theorem cm_isB : Cm X T .Is vIsB rIsB where
  ok := op_isBl
  sound := by
    intro W st H da db d x y Q A ra rb e h
    cases ra <;> cases rb <;> simp only [vIsB] at e <;> first | (cases e; done) | skip
    rename_i p q
    cases e
    refine ⟨p, q, rfl, rfl, ?_⟩
    have := stay A h (.bl (p == q))
    cases p <;> cases q <;> exact this
  bool := by intro st da db d e; unfold vIsB at e; split at e <;> cases e; exact ⟨_, rfl⟩
theorem ma_nil : MA X T Wx [] xNil := PA.imp pa_nil fun σ H Q ⟨W, st, σd, A, h⟩ => OutG.now h A.abs .nil
theorem ma_cons (ha : ME X T Wx a ma) (hr : MA X T Wx es mr) (hs : starEach (a :: es) X.env = (false, eval a X.env) :: starEach es X.env := by rfl) : MA X T Wx (a :: es) (xCons ma mr) := by
  refine PA.imp (pa_cons ha hr hs) fun σ H Q ⟨W, st, σd, A, h⟩ => ?_
  refine step A h fun W1 st1 H1 d x a1 g1 r1 h1 => ?_
  refine step a1 h1 fun W2 st2 H2 ds xs a2 g2 r2 h2 => ?_
  exact OutG.now h2 a2.abs (.cons (r1.mono a1.abs g2) r2)
theorem me_tup {k} (h : MA X T Wx es mr) : ME X T Wx (.Tuple es k pos) (xTup mr) := by
  refine PE.imp (pe_tup h) fun σ H Q ⟨W, st, σd, A, h⟩ => ?_
  refine step A h fun W1 st1 H1 ds xs a1 g1 r1 h1 => ?_
  split at h1
  · rename_i hz
    exact ⟨sizeOk r1 hz, fun p hp => newTup a1.abs r1 h1 p hp⟩
  · exact False.elim h1
end
end Mi
end
section
set_option Elab.async false
set_option linter.all false
set_option maxRecDepth 100000
set_option autoImplicit false
namespace Mi
open PySem L2
def Wd.add (W : Wd) (a : Addr) : Wd := ⟨a :: W.fb, W.rho⟩
section
variable {T : Tb} {W W' : Wd} {st st' : Sto} {H H' : Hp}
theorem LivO.add {a x : Addr} : LivO (W.add a) st x ↔ LivO W st x := Iff.rfl
theorem Abs.noAdd {a : Addr} (A : Abs T (W.add a) st H) : ¬ LivO W st a := fun l => A.out a l List.mem_cons_self
theorem Abs.drop {a : Addr} (A : Abs T (W.add a) st H) : Abs T W st H := by
  have t : To (W.add a) st H W st H := To.less (fun x h => h.elim (fun q => .inl (List.mem_cons_of_mem _ q)) .inr) fun _ _ e => e
  exact ⟨A.len, fun l c x h1 h2 => (A.cell l c x h1 h2).to t fun _ e _ => e, A.one, fun x h q => A.out x h (List.mem_cons_of_mem _ q), fun x h => A.fbt x (List.mem_cons_of_mem _ h), A.tabs⟩
theorem To.dropAdd {a : Addr} : To (W.add a) st H W st H := To.less (fun x h => h.elim (fun q => .inl (List.mem_cons_of_mem _ q)) .inr) fun _ _ e => e
/-- a fresh object is put beside -/
theorem To.add {a : Addr} {o : HO} (ha : H a = none) (A : Abs T W st H) : To W st H (W.add a) st (upd H a o) := by
  have g : Grow W st H (W.add a) st (upd H a o) := {
    fbs := fun x h => List.mem_cons_of_mem _ h
    fbn := fun x h => (List.mem_cons.mp h).elim (fun e => .inr (e ▸ Nobj.of ha)) .inl
    rho := List.prefix_refl _
    keep := fun x u h _ _ => .inl (by rw [upd_ne (ne_of_none h ha)]; exact h)
    new := fun _ h => .inl h
    still := fun x u h t => ⟨u, by rw [upd_ne (ne_of_none h ha)]; exact h, t⟩ }
  exact g.to A
theorem Abs.tracked (A : Abs T W st H) {a : Addr} (l : LivO W st a) : ∃ o, H a = some o ∧ ∀ ps, o ≠ .tbl ps := by
  rcases A.kind l with ⟨_, e⟩ | ⟨_, e⟩ | ⟨_, e⟩ | ⟨_, _, _, e⟩ <;> exact ⟨_, e, fun _ z => by cases z⟩
theorem Abs.addFresh {a : Addr} {o : HO} (A : Abs T W st H) (ha : H a = none) (to : ∀ ps, o ≠ .tbl ps) : Abs T (W.add a) st (upd H a o) := by
  refine ⟨A.len, fun l c x h1 h2 => (A.cell l c x h1 h2).to (To.add ha A) fun u e _ => by rw [upd_ne (ne_of_none e ha)]; exact e, A.one, fun x h q => ?_, fun x h => ?_, tabs_new A.tabs ha⟩
  · rcases List.mem_cons.mp q with e | q
    · subst e
      obtain ⟨o, e, _⟩ := A.tracked (show LivO W st x from h)
      rw [ha] at e; cases e
    · exact A.out x h q
  · rcases List.mem_cons.mp h with e | h
    · subst e; exact ⟨o, upd_same, to⟩
    · obtain ⟨u, e, t⟩ := A.fbt x h
      exact ⟨u, by rw [upd_ne (ne_of_none e ha)]; exact e, t⟩
end
/-- a new list or dict, since the heap H0 -/
def RC (T : Tb) (H0 : Hp) (W : Wd) (st : Sto) (H : Hp) (c : Cell) (v : V) : Prop := ∃ a, v = .ref a ∧ Abs T (W.add a) st H ∧ CellOk T (W.add a) st H c a ∧ Nobj H0 a ∧ a ∉ W.fb
def lC (T : Tb) (Wx : WX) (m : Env → Sto → Out Cell) : TE := fun σ H Q => lG T (RC T H) Wx m σ H Q
def cL (m : XL) : Env → Sto → Out Cell := fun σ st => (m σ st).bind fun ds st1 => .ok (.lst ds) st1
def cD (m : XD) : Env → Sto → Out Cell := fun σ st => (m σ st).bind fun ds st1 => .ok (.dct ds) st1
def ML (X : Cx) (T : Tb) (Wx : WX) (e : Expr) (m : XL) : Prop := PE X e (lC T Wx (cL m))
def MD (X : Cx) (T : Tb) (Wx : WX) (e : Expr) (m : XD) : Prop := PE X e (lC T Wx (cD m))
section
variable {X : Cx} {T : Tb} {Wx : WX} {e : Expr} {m : XL} {md : XD}
theorem RC.fz {W : Wd} {st : Sto} {H : Hp} {H0 : Hp} {v : V} {ds : List D} (r : RC T H0 W st H (.lst ds) v) : Rep T W st H (.lst ds) v := by
  obtain ⟨a, rfl, A, ⟨vs, e, rs⟩, h0, hf⟩ := r
  exact .lst ⟨e, fun q => q.elim hf A.noAdd⟩ (rs.to To.dropAdd)
theorem RC.fzD {W : Wd} {st : Sto} {H : Hp} {H0 : Hp} {v : V} {ds : List (D × D)} (r : RC T H0 W st H (.dct ds) v) : Rep T W st H (.dct ds) v := by
  obtain ⟨a, rfl, A, c, h0, hf⟩ := r
  rcases c with ⟨vs, e, rs⟩ | ⟨vs, e, rs⟩
  · exact .dK (.inl ⟨e, fun q => q.elim hf A.noAdd⟩) (rs.to To.dropAdd)
  · exact .dT (.inl ⟨e, fun q => q.elim hf A.noAdd⟩) (rs.to To.dropAdd)
theorem me_frz (h : ML X T Wx e m) : ME X T Wx e (xFrz m) := by
  refine PE.imp h fun σ H Q ⟨W, st, σd, A, o⟩ => ⟨W, st, σd, A, ?_⟩
  unfold xFrz at o
  unfold cL
  cases q : m σd st with
  | ok ds s => rw [q] at o; exact fun W1 H1 v g A1 r => o W1 H1 v g A1 r.fz
  | exc x s => rw [q] at o; exact o
  | bad => rw [q] at o; exact o
theorem me_frzD (h : MD X T Wx e md) : ME X T Wx e (xFrzD md) := by
  refine PE.imp h fun σ H Q ⟨W, st, σd, A, o⟩ => ⟨W, st, σd, A, ?_⟩
  unfold xFrzD at o
  unfold cD
  cases q : md σd st with
  | ok ds s => rw [q] at o; exact fun W1 H1 v g A1 r => o W1 H1 v g A1 r.fzD
  | exc x s => rw [q] at o; exact o
  | bad => rw [q] at o; exact o
/-- the new cell is counted among the live ones -/
theorem live_new {W W0 : Wd} {st st' : Sto} {H H' : Hp} {a : Addr} {c : Cell} (g : Grow W st H W0 st' H') (A : Abs T (W0.add a) st' H') (k : CellOk T (W0.add a) st' H' c a) (h0 : Nobj H a) (hf : a ∉ W0.fb) :
    Grow W st H ⟨W0.fb, W0.rho ++ [a]⟩ (st' ++ [c]) H' ∧ Abs T ⟨W0.fb, W0.rho ++ [a]⟩ (st' ++ [c]) H' ∧ (⟨W0.fb, W0.rho ++ [a]⟩ : Wd).rho[st'.length]? = some a := by
  have hl : W0.rho.length = st'.length := A.len
  have old : ∀ {i : Nat} {x : Addr}, W0.rho[i]? = some x → (W0.rho ++ [a])[i]? = some x := fun {i x} e => by
    have := (List.getElem?_eq_some_iff.mp e).1
    rw [List.getElem?_append_left this]; exact e
  have back : ∀ {i : Nat} {x : Addr} {c' : Cell}, (W0.rho ++ [a])[i]? = some x → (st' ++ [c])[i]? = some c' → (W0.rho[i]? = some x ∧ st'[i]? = some c') ∨ (x = a ∧ c' = c ∧ i = st'.length) := fun {i x c'} e1 e2 => by
    by_cases hi : i < st'.length
    · rw [List.getElem?_append_left (by omega)] at e1
      rw [List.getElem?_append_left hi] at e2
      exact .inl ⟨e1, e2⟩
    · rw [List.getElem?_append_right (by omega)] at e1
      rw [List.getElem?_append_right (by omega)] at e2
      have h1 : i - W0.rho.length = 0 := by
        have := (List.getElem?_eq_some_iff.mp e1).1
        simp at this; omega
      rw [h1] at e1
      have h2 : i - st'.length = 0 := by omega
      rw [h2] at e2
      simp at e1 e2
      exact .inr ⟨e1.symm, e2.symm, by omega⟩
  have liv : ∀ x, LivO ⟨W0.fb, W0.rho ++ [a]⟩ (st' ++ [c]) x → LivO W0 st' x ∨ x = a := fun x ⟨i, c', e1, e2, n⟩ => (back e1 e2).elim (fun q => .inl ⟨i, c', q.1, q.2, n⟩) fun q => .inr q.1
  have t : To (W0.add a) st' H' ⟨W0.fb, W0.rho ++ [a]⟩ (st' ++ [c]) H' := To.less (fun x h => h.elim (fun q => .inl (List.mem_cons_of_mem _ q)) fun q => (liv x q).elim .inr fun e => .inl (by rw [e]; exact List.mem_cons_self)) fun i x e => old e
  refine ⟨⟨g.fbs, g.fbn, g.rho.trans (List.prefix_append _ _), g.keep, fun x h => (liv x h).elim (g.new x) fun e => .inr (e ▸ h0), g.still⟩, ⟨by simp [hl], fun l c' x h1 h2 => ?_, fun l l' x c1 c2 h1 h2 h3 h4 n1 n2 => ?_, fun x h q => ?_, A.drop.fbt, A.tabs⟩, ?_⟩
  · rcases back h2 h1 with ⟨q1, q2⟩ | ⟨q1, q2, _⟩
    · exact (A.cell l c' x q2 q1).to t fun _ e _ => e
    · subst q1 q2; exact k.to t fun _ e _ => e
  · rcases back h1 h3 with ⟨p1, p2⟩ | ⟨p1, p2, p3⟩ <;> rcases back h2 h4 with ⟨q1, q2⟩ | ⟨q1, q2, q3⟩
    · exact A.one l l' x c1 c2 p1 q1 p2 q2 n1 n2
    · exact absurd ⟨l, c1, by rw [← q1]; exact p1, p2, n1⟩ A.noAdd
    · exact absurd ⟨l', c2, by rw [← p1]; exact q1, q2, n2⟩ A.noAdd
    · omega
  · rcases liv x h with z | z
    · exact A.drop.out x z q
    · exact hf (z ▸ q)
  · show (W0.rho ++ [a])[st'.length]? = some a
    rw [← hl]; simp
theorem me_live (h : ML X T Wx e m) : ME X T Wx e (xLive m) := by
  refine PE.imp h fun σ H Q ⟨W, st, σd, A, o⟩ => ⟨W, st, σd, A, ?_⟩
  unfold xLive at o
  unfold cL
  cases q : m σd st with
  | ok ds s =>
    rw [q] at o
    intro W1 H1 v g A1 ⟨a, ev, Aa, k, h0, hf⟩
    subst ev
    obtain ⟨g2, A2, r2⟩ := live_new g Aa k h0 hf
    exact o _ H1 (.ref a) g2 A2 (.loc r2)
  | exc x s => rw [q] at o; exact o
  | bad => rw [q] at o; exact o
theorem me_liveD (h : MD X T Wx e md) : ME X T Wx e (xLiveD md) := by
  refine PE.imp h fun σ H Q ⟨W, st, σd, A, o⟩ => ⟨W, st, σd, A, ?_⟩
  unfold xLiveD at o
  unfold cD
  cases q : md σd st with
  | ok ds s =>
    rw [q] at o
    intro W1 H1 v g A1 ⟨a, ev, Aa, k, h0, hf⟩
    subst ev
    obtain ⟨g2, A2, r2⟩ := live_new g Aa k h0 hf
    exact o _ H1 (.ref a) g2 A2 (.loc r2)
  | exc x s => rw [q] at o; exact o
  | bad => rw [q] at o; exact o
/-- a new list at p, at the end of an expression that began at H -/
theorem newL {W : Wd} {st : Sto} {H H0 : Hp} {W0 : Wd} {st0 : Sto} {ds : List D} {vs : List V} {σ : L2.St} {Q : VK} (g0 : Grow W0 st0 H0 W st H) (A : Abs T W st H) (r : Reps T W st H ds vs) (h : OutG T (RC T H0) Wx σ W st H (.ok (.lst ds) st) Q) (p : Addr) (hp : H p = none) : Q (.ref p) (upd H p (.lst vs)) := by
  have nf : p ∉ W.fb := fun q => by obtain ⟨o, e, _⟩ := A.fbt p q; rw [hp] at e; cases e
  exact h W _ (.ref p) (Grow.fresh hp) (A.fresh hp) ⟨p, rfl, A.addFresh hp (fun _ z => by cases z), ⟨vs, upd_same, r.to (To.add hp A)⟩, g0.nothing (Nobj.of hp), nf⟩
theorem newDK {W : Wd} {st : Sto} {H H0 : Hp} {W0 : Wd} {st0 : Sto} {ds : List (D × D)} {vs : List (Key × V)} {σ : L2.St} {Q : VK} (g0 : Grow W0 st0 H0 W st H) (A : Abs T W st H) (r : RepK T W st H ds vs) (h : OutG T (RC T H0) Wx σ W st H (.ok (.dct ds) st) Q) (p : Addr) (hp : H p = none) : Q (.ref p) (upd H p (.dK vs)) := by
  have nf : p ∉ W.fb := fun q => by obtain ⟨o, e, _⟩ := A.fbt p q; rw [hp] at e; cases e
  exact h W _ (.ref p) (Grow.fresh hp) (A.fresh hp) ⟨p, rfl, A.addFresh hp (fun _ z => by cases z), .inl ⟨vs, upd_same, r.to (To.add hp A)⟩, g0.nothing (Nobj.of hp), nf⟩
theorem bind_assoc {α β γ : Type} (o : Out α) (f : α → Sto → Out β) (g : β → Sto → Out γ) : (o.bind f).bind g = o.bind fun a s => (f a s).bind g := by cases o <;> rfl
theorem ml_lst {es : List Expr} {mr : XA} {pos : Pos} (h : MA X T Wx es mr) : ML X T Wx (.List es pos) (xLst mr) := by
  refine PE.imp (pe_lst h) fun σ H Q ⟨W, st, σd, A, h⟩ => ?_
  unfold cL xLst at h
  rw [bind_assoc] at h
  refine step A h fun W1 st1 H1 ds xs a1 g1 r1 h1 => ?_
  split at h1
  · rename_i hz
    exact ⟨sizeOk r1 hz, fun p hp => newL g1 a1.abs r1 h1 p hp⟩
  · exact False.elim h1
theorem md_nil {pos : Pos} : MD X T Wx (.Dict [] [] pos) xDNil :=
  PE.imp pe_dnewK fun σ H Q ⟨W, st, σd, A, h⟩ p hp => newDK (Grow.refl _ _ _) A.abs .nil h p hp
end
end Mi
end
section
set_option Elab.async false
set_option linter.all false
set_option maxRecDepth 100000
set_option autoImplicit false
namespace Mi
open PySem L2
/-- cells have died, nothing else -/
def Less (st st' : Sto) : Prop := st'.length = st.length ∧ ∀ (l : Nat) (c : Cell), st'[l]? = some c → c = .dead ∨ st[l]? = some c
theorem Less.refl (st : Sto) : Less st st := ⟨rfl, fun _ _ h => .inr h⟩
theorem Less.trans {a b c : Sto} (h : Less a b) (k : Less b c) : Less a c := ⟨k.1.trans h.1, fun l x e => (k.2 l x e).elim .inl fun q => h.2 l x q⟩
theorem Less.kill {st : Sto} {l : Nat} : Less st (st.set l .dead) := by
  refine ⟨by simp, fun i c e => ?_⟩
  by_cases h : l = i
  · subst h
    by_cases hl : l < st.length
    · rw [List.getElem?_set_self hl] at e; cases e; exact .inl rfl
    · rw [List.getElem?_eq_none (by simpa using hl)] at e; cases e
  · rw [List.getElem?_set_ne h] at e; exact .inr e
section
variable {T : Tb} {W : Wd} {st st' : Sto} {H : Hp}
theorem Less.liv (h : Less st st') {a : Addr} (l : LivO W st' a) : LivO W st a := by
  obtain ⟨i, c, e1, e2, n⟩ := l
  exact ⟨i, c, e1, (h.2 i c e2).resolve_left n, n⟩
theorem Less.to (h : Less st st') : To W st H W st' H := To.less (fun _ q => q.imp id h.liv) fun _ _ e => e
theorem Less.grow (h : Less st st') : Grow W st H W st' H := ⟨fun _ q => q, fun _ q => .inl q, List.prefix_refl _, fun _ _ e _ _ => .inl e, fun _ q => .inl (h.liv q), fun _ o e t => ⟨o, e, t⟩⟩
theorem Less.abs (h : Less st st') (A : Abs T W st H) : Abs T W st' H where
  len := A.len.trans h.1.symm
  cell := fun l c a e1 e2 => by
    rcases h.2 l c e1 with q | q
    · subst q; trivial
    · exact (A.cell l c a q e2).to h.to fun _ e _ => e
  one := fun l l' a c c' e1 e2 e3 e4 n n' => A.one l l' a c c' e1 e2 ((h.2 l c e3).resolve_left n) ((h.2 l' c' e4).resolve_left n') n n'
  out := fun a q => A.out a (h.liv q)
  fbt := A.fbt
  tabs := A.tabs
theorem Fz.less (h : Less st st') {a : Addr} {u : HO} (z : Fz W st H a u) : Fz W st' H a u := z.imp (fun q => ⟨q.1, fun l => q.2 (l.imp id h.liv)⟩) id
theorem Fl.less (h : Less st st') {a : Addr} {u : HO} (z : Fl W st H a u) : Fl W st' H a u := ⟨z.1, fun l => z.2 (l.imp id h.liv)⟩
def FzOk (T : Tb) (W : Wd) (H : Hp) (f : Nat → Sto → Option (D × Sto)) : Prop := ∀ (l : Nat) (st st' : Sto) (d' : D) (a : Addr), Abs T W st H → W.rho[l]? = some a → f l st = some (d', st') → Less st st' ∧ Rep T W st' H d' (.ref a)
section
variable {f : Nat → Sto → Option (D × Sto)} (F : FzOk T W H f)
include F
mutual
theorem trD_ok : ∀ (d : D) (st st' : Sto) (d' : D) (v : V), Abs T W st H → Rep T W st H d v → trD f st d = some (d', st') → Less st st' ∧ Rep T W st' H d' v
  | .non, st, st', d', v, A, r, e => by simp [trD] at e; obtain ⟨rfl, rfl⟩ := e; exact ⟨Less.refl _, r⟩
  | .bl _, st, st', d', v, A, r, e => by simp [trD] at e; obtain ⟨rfl, rfl⟩ := e; exact ⟨Less.refl _, r⟩
  | .int _, st, st', d', v, A, r, e => by simp [trD] at e; obtain ⟨rfl, rfl⟩ := e; exact ⟨Less.refl _, r⟩
  | .str _, st, st', d', v, A, r, e => by simp [trD] at e; obtain ⟨rfl, rfl⟩ := e; exact ⟨Less.refl _, r⟩
  | .tup xs, st, st', d', v, A, r, e => by
    cases r with
    | tup h r =>
      simp only [trD, Option.map_eq_some_iff] at e
      obtain ⟨⟨ys, s1⟩, e1, e2⟩ := e
      cases e2
      obtain ⟨l, r1⟩ := trL_ok xs st s1 ys _ A r e1
      exact ⟨l, .tup h r1⟩
  | .lst xs, st, st', d', v, A, r, e => by
    cases r with
    | lst h r =>
      simp only [trD, Option.map_eq_some_iff] at e
      obtain ⟨⟨ys, s1⟩, e1, e2⟩ := e
      cases e2
      obtain ⟨l, r1⟩ := trL_ok xs st s1 ys _ A r e1
      exact ⟨l, .lst (h.less l) r1⟩
  | .dct xs, st, st', d', v, A, r, e => by
    simp only [trD, Option.map_eq_some_iff] at e
    obtain ⟨⟨ys, s1⟩, e1, e2⟩ := e
    cases e2
    cases r with
    | dK h r =>
      obtain ⟨l, r1⟩ := trK_ok xs st s1 ys _ A r e1
      exact ⟨l, .dK (h.less l) r1⟩
    | dT h r =>
      obtain ⟨l, r1⟩ := trT_ok xs st s1 ys _ A r e1
      exact ⟨l, .dT (h.less l) r1⟩
  | .ins c fs, st, st', d', v, A, r, e => by
    cases r with
    | ins h nl sb r =>
      simp only [trD, Option.map_eq_some_iff] at e
      obtain ⟨⟨ys, s1⟩, e1, e2⟩ := e
      cases e2
      obtain ⟨l, r1⟩ := trF_ok fs st s1 ys _ A r e1
      exact ⟨l, .ins h (fun q => nl (q.imp id l.liv)) sb r1⟩
  | .scr _, st, st', d', v, A, r, e => by simp [trD] at e; obtain ⟨rfl, rfl⟩ := e; exact ⟨Less.refl _, r⟩
  | .exn, st, st', d', v, A, r, e => by simp [trD] at e; obtain ⟨rfl, rfl⟩ := e; exact ⟨Less.refl _, r⟩
  | .loc l, st, st', d', v, A, r, e => by
    cases r with
    | loc h =>
      simp only [trD] at e
      exact F l st st' d' _ A h e
theorem trL_ok : ∀ (xs : List D) (st st' : Sto) (ys : List D) (vs : List V), Abs T W st H → Reps T W st H xs vs → trL f st xs = some (ys, st') → Less st st' ∧ Reps T W st' H ys vs
  | [], st, st', ys, vs, A, r, e => by
    cases r
    simp [trL] at e
    obtain ⟨rfl, rfl⟩ := e
    exact ⟨Less.refl _, .nil⟩
  | x :: xs, st, st', ys, vs, A, r, e => by
    cases r with
    | cons h r =>
      simp only [trL] at e
      cases e1 : trD f st x with
      | none => rw [e1] at e; cases e
      | some p =>
        obtain ⟨y, s1⟩ := p
        rw [e1] at e
        simp only [Option.map_eq_some_iff] at e
        obtain ⟨⟨zs, s2⟩, e2, e3⟩ := e
        cases e3
        obtain ⟨l1, r1⟩ := trD_ok x st s1 y _ A h e1
        obtain ⟨l2, r2⟩ := trL_ok xs s1 s2 zs _ (l1.abs A) (r.to l1.to) e2
        exact ⟨l1.trans l2, .cons (r1.to l2.to) r2⟩
theorem trK_ok : ∀ (xs : List (D × D)) (st st' : Sto) (ys : List (D × D)) (vs : List (Key × V)), Abs T W st H → RepK T W st H xs vs → trK f st xs = some (ys, st') → Less st st' ∧ RepK T W st' H ys vs
  | [], st, st', ys, vs, A, r, e => by
    cases r
    simp [trK] at e
    obtain ⟨rfl, rfl⟩ := e
    exact ⟨Less.refl _, .nil⟩
  | (k, x) :: xs, st, st', ys, vs, A, r, e => by
    cases r with
    | cons hk h r =>
      simp only [trK] at e
      cases e1 : trD f st x with
      | none => rw [e1] at e; cases e
      | some p =>
        obtain ⟨y, s1⟩ := p
        rw [e1] at e
        simp only [] at e
        split at e
        · simp only [Option.map_eq_some_iff] at e
          obtain ⟨⟨zs, s2⟩, e2, e3⟩ := e
          cases e3
          obtain ⟨l1, r1⟩ := trD_ok x st s1 y _ A h e1
          obtain ⟨l2, r2⟩ := trK_ok xs s1 s2 zs _ (l1.abs A) (r.to l1.to) e2
          exact ⟨l1.trans l2, .cons hk (r1.to l2.to) r2⟩
        · cases e
theorem trT_ok : ∀ (xs : List (D × D)) (st st' : Sto) (ys : List (D × D)) (vs : List (List Key × V)), Abs T W st H → RepT T W st H xs vs → trK f st xs = some (ys, st') → Less st st' ∧ RepT T W st' H ys vs
  | [], st, st', ys, vs, A, r, e => by
    cases r
    simp [trK] at e
    obtain ⟨rfl, rfl⟩ := e
    exact ⟨Less.refl _, .nil⟩
  | (k, x) :: xs, st, st', ys, vs, A, r, e => by
    cases r with
    | cons hk h r =>
      simp only [trK] at e
      cases e1 : trD f st x with
      | none => rw [e1] at e; cases e
      | some p =>
        obtain ⟨y, s1⟩ := p
        rw [e1] at e
        simp only [] at e
        split at e
        · simp only [Option.map_eq_some_iff] at e
          obtain ⟨⟨zs, s2⟩, e2, e3⟩ := e
          cases e3
          obtain ⟨l1, r1⟩ := trD_ok x st s1 y _ A h e1
          obtain ⟨l2, r2⟩ := trT_ok xs s1 s2 zs _ (l1.abs A) (r.to l1.to) e2
          exact ⟨l1.trans l2, .cons hk (r1.to l2.to) r2⟩
        · cases e
theorem trF_ok : ∀ (xs : List (Nat × D)) (st st' : Sto) (ys : List (Nat × D)) (vs : List (PySem.Str × V)), Abs T W st H → RepF T W st H xs vs → trF f st xs = some (ys, st') → Less st st' ∧ RepF T W st' H ys vs
  | [], st, st', ys, vs, A, r, e => by
    cases r
    simp [trF] at e
    obtain ⟨rfl, rfl⟩ := e
    exact ⟨Less.refl _, .nil⟩
  | (k, x) :: xs, st, st', ys, vs, A, r, e => by
    cases r with
    | cons hk h r =>
      simp only [trF] at e
      cases e1 : trD f st x with
      | none => rw [e1] at e; cases e
      | some p =>
        obtain ⟨y, s1⟩ := p
        rw [e1] at e
        simp only [Option.map_eq_some_iff] at e
        obtain ⟨⟨zs, s2⟩, e2, e3⟩ := e
        cases e3
        obtain ⟨l1, r1⟩ := trD_ok x st s1 y _ A h e1
        obtain ⟨l2, r2⟩ := trF_ok xs s1 s2 zs _ (l1.abs A) (r.to l1.to) e2
        exact ⟨l1.trans l2, .cons hk (r1.to l2.to) r2⟩
end
end
/-- the cell at a, dead, is not live -/
theorem dead_no (A : Abs T W st H) {l : Nat} {a : Addr} {c : Cell} (hr : W.rho[l]? = some a) (hc : st[l]? = some c) (hn : c ≠ .dead) (h : Less (st.set l .dead) st') : ¬ Liv W st' a := fun q => by
  rcases q with q | q
  · exact A.out a ⟨l, c, hr, hc, hn⟩ q
  · obtain ⟨i, c', e1, e2, n⟩ := h.liv q
    by_cases hi : l = i
    · subst hi
      rw [List.getElem?_set_self (List.getElem?_eq_some_iff.mp hc).1] at e2
      cases e2; exact n rfl
    · rw [List.getElem?_set_ne hi] at e2
      exact hi (A.one l i a c c' hr e1 hc e2 hn n)
theorem fzN_ok : ∀ n, FzOk T W H (fzN n)
  | 0 => fun _ _ _ _ _ _ _ e => by cases e
  | n + 1 => fun l st st' d' a A hr e => by
    have F := fzN_ok n
    simp only [fzN] at e
    cases hc : st[l]? with
    | none => rw [hc] at e; cases e
    | some c =>
      rw [hc] at e
      have k : Less st (st.set l .dead) := Less.kill
      have A1 := k.abs A
      have co := A.cell l c a hc hr
      cases c with
      | lst xs =>
        simp only [Option.map_eq_some_iff] at e
        obtain ⟨⟨ys, s1⟩, e1, e2⟩ := e
        cases e2
        obtain ⟨vs, e3, r⟩ := co
        obtain ⟨l1, r1⟩ := trL_ok F xs _ _ ys vs A1 (r.to k.to) e1
        exact ⟨k.trans l1, .lst ⟨e3, dead_no A hr hc (fun z => by cases z) l1⟩ r1⟩
      | dct kvs =>
        simp only [Option.map_eq_some_iff] at e
        obtain ⟨⟨ys, s1⟩, e1, e2⟩ := e
        cases e2
        rcases co with ⟨vs, e3, r⟩ | ⟨vs, e3, r⟩
        · obtain ⟨l1, r1⟩ := trK_ok F kvs _ _ ys vs A1 (r.to k.to) e1
          exact ⟨k.trans l1, .dK (.inl ⟨e3, dead_no A hr hc (fun z => by cases z) l1⟩) r1⟩
        · obtain ⟨l1, r1⟩ := trT_ok F kvs _ _ ys vs A1 (r.to k.to) e1
          exact ⟨k.trans l1, .dT (.inl ⟨e3, dead_no A hr hc (fun z => by cases z) l1⟩) r1⟩
      | ins c fs =>
        simp only [Option.map_eq_some_iff] at e
        obtain ⟨⟨ys, s1⟩, e1, e2⟩ := e
        cases e2
        obtain ⟨dx, vs, e3, r⟩ := co
        obtain ⟨l1, r1⟩ := trF_ok F fs _ _ ys vs A1 (r.to k.to) e1
        exact ⟨k.trans l1, .ins e3 (dead_no A hr hc (fun z => by cases z) l1) r.subF r1⟩
      | dead => cases e
end
section
variable {X : Cx} {T : Tb} {Wx : WX} {e : Expr} {m : XE}
theorem me_fz (h : ME X T Wx e m) : ME X T Wx e (xFz m) := by
  refine PE.imp h fun σ H Q ⟨W, st, σd, A, o⟩ => ?_
  refine step A o fun W1 st1 H1 d v a1 g1 r1 h1 => ?_
  cases q : fz st1 d with
  | none => rw [q] at h1; exact False.elim h1
  | some p =>
    obtain ⟨d', st2⟩ := p
    rw [q] at h1
    obtain ⟨l, r2⟩ := trD_ok (fzN_ok 6) d st1 st2 d' v a1.abs r1 q
    exact h1 W1 H1 v l.grow (l.abs a1.abs) r2
end
end Mi
end
section
set_option Elab.async false
set_option linter.all false
set_option maxRecDepth 100000
set_option autoImplicit false
namespace Mi
open PySem L2
theorem ixN_eq (n : Nat) (i : Int) : Mi.ixN n i = L2.ixN n i := by
  unfold Mi.ixN L2.ixN
  rfl
theorem atI_get' {α : Type} {xs : List α} {i : Int} {v : α} (h : Mi.atI xs i = some v) : ∃ j, Mi.ixN xs.length i = some j ∧ xs[j]? = some v := by
  unfold Mi.atI at h
  cases e : Mi.ixN xs.length i with
  | none => rw [e] at h; cases h
  | some j => rw [e] at h; exact ⟨j, rfl, h⟩
theorem sIx_eq (n d : Nat) (i : Option Int) : Mi.sIx n d i = HT.sIx n d i := by
  unfold Mi.sIx HT.sIx
  rfl
section
variable {T : Tb} {W : Wd} {st : Sto} {H : Hp}
theorem Reps.atI {ds : List D} {vs : List V} {i : Int} {d : D} (r : Reps T W st H ds vs) (e : Mi.atI ds i = some d) : ∃ v, L2.atI vs i = some v ∧ Rep T W st H d v := by
  obtain ⟨j, e1, e2⟩ := atI_get' e
  obtain ⟨v, e3, r3⟩ := r.get e2
  refine ⟨v, ?_, r3⟩
  unfold L2.atI
  rw [r.length, ← ixN_eq, e1]
  exact e3
theorem Reps.cut {ds : List D} {vs : List V} (r : Reps T W st H ds vs) (l h : Option Int) : Reps T W st H (cutL ds l h) (cutV vs l h) := by
  unfold cutL cutV
  rw [sIx_eq, sIx_eq, ← r.length]
  exact (r.drop _).take _
theorem RepF.get : ∀ {fs : List (Nat × D)} {vs : List (PySem.Str × V)} {i : Nat} {d : D}, i < T.n → RepF T W st H fs vs → getF fs i = some d → ∃ v, vs.lookup (T.an i) = some v ∧ Rep T W st H d v
  | _, _, _, _, _, .nil, e => by cases e
  | _, _, i, d, hi, .cons (i := j) (v := v) (vs := vs) hj h r, e => by
    unfold getF at e
    by_cases hij : j = i
    · rw [if_pos hij] at e
      cases e
      exact ⟨v, by rw [hij]; simp, h⟩
    · rw [if_neg hij] at e
      obtain ⟨w, e1, r1⟩ := RepF.get hi r e
      refine ⟨w, ?_, r1⟩
      have : (T.an i == T.an j) = false := beq_eq_false_iff_ne.mpr fun q => hij (T.inj j i hj hi q.symm)
      simp [List.lookup, this, e1]
theorem newFrz {ds : List D} {vs : List V} {Q : VK} (A : Abs T W st H) (r : Reps T W st H ds vs)
    (h : ∀ W' H' v, Grow W st H W' st H' → Abs T W' st H' → Rep T W' st H' (.lst ds) v → Q v H') (p : Addr) (hp : H p = none) : Q (.ref p) (upd H p (.lst vs)) := by
  refine h W _ _ (Grow.fresh hp) (A.fresh hp) (.lst ⟨upd_same, fun q => ?_⟩ (r.mono A (Grow.fresh hp)))
  rcases q with q | q
  · obtain ⟨o, e, _⟩ := A.fbt p q; rw [hp] at e; cases e
  · obtain ⟨o, e, _⟩ := A.tracked q; rw [hp] at e; cases e
end
/-- a field of the classes cs -/
structure FldOk (K : PySem.W.Frag) (T : Ts) (cs : List Nat) (i : Nat) (f : PySem.Str) : Prop where
  an : T.an i = f
  lt : i < T.n
  ok : ∀ c ∈ cs, Cls K (T.ca c) ∧ NoAttr K (T.ca c) f
section
variable {X : Cx} {T : Tb} {Wx : WX} {a b : Expr} {ma mb : XE} {pos : Pos}
def rIxD : R2 := fun x y H Q => ∃ a v, x = .ref a ∧ DGet H a y (some v) ∧ Q v H
theorem ix_dct (hu : X.A.units + 1 < cLine) : IxR X rIxD := by
  intro value slice pins s σ H x y v u Q I rx ry h hs
  obtain ⟨p, z, rfl, g, q⟩ := h
  cases rx
  exact PyProof.Rows.tail_any (dict_typeIs I g) PySem.F.slot_dict_getitem.lookup (d_getItem hu I g ry fun w' s3 I3 rw' => ⟨z, H, I3, rw', q⟩) hs
theorem strOf_len (s : List Nat) : (strOf s).length = s.length := by simp [strOf, PySem.Str.length]
theorem strOf_cps (s : List Nat) : (strOf s).cps.toList = s := by simp [strOf]
theorem me_ix (hu : X.A.units + 1 < cLine) (ha : ME X T Wx a ma) (hb : ME X T Wx b mb) (hs : PlainIx b := by intro _ _; rfl) : ME X T Wx (.Subscript a b pos) (xOp vIx ma mb) := by
  refine lift2 (pe_ix ((ix_dct hu).or ix_seq) ha hb hs) ?_
  intro W st H da db d x y Q A ra rb e h
  unfold vIx at e
  split at e
  · rename_i kvs e1
    split at e
    · rename_i hf
      obtain ⟨p, rfl, g⟩ := ra.dget A e1 rb hf
      rcases g with ⟨z, _⟩ | ⟨z, _⟩ | ⟨d', v', z, g, r'⟩
      · subst z; simp [getK] at e
      · rw [z] at e; cases e
      · rw [z] at e; cases e
        exact .inl ⟨p, v', rfl, g, stay A h r'⟩
    · cases e
  · split at e
    · rename_i k
      cases rb
      split at e
      · rename_i s _
        cases ra
        split at e
        · rename_i hz
          simp only [Option.map_eq_some_iff] at e
          obtain ⟨c, e1, rfl⟩ := e
          refine .inr (.inr (.inr ⟨strOf s, k, c, rfl, rfl, by rw [strOf_len, ← szL_eq]; exact hz, ?_, stay A h (.str [c])⟩))
          rw [strOf_cps]
          obtain ⟨j, e2, e3⟩ := atI_get' e1
          unfold L2.atI
          rw [← ixN_eq, e2]; exact e3
        · cases e
      · split at e
        · rename_i xs e1
          obtain ⟨p, vs, rfl, r1, hq⟩ := ra.seq (K := X.K) A e1
          obtain ⟨v, e2, r2⟩ := r1.atI e
          rcases hq with hq | hq
          · exact .inr (.inl ⟨p, vs, k, v, rfl, rfl, hq, e2, stay A h r2⟩)
          · exact .inr (.inr (.inl ⟨p, vs, k, v, rfl, rfl, hq, e2, stay A h r2⟩))
        · cases e
    · cases e
variable {lo hi : Option Expr} {ml mh : XO} {p2 : Pos}
theorem mo_none : MO X T Wx none oNone := PO.imp po_none fun σ H Q ⟨W, st, σd, A, h⟩ => OutG.now h A.abs rfl
theorem mo_some (ha : ME X T Wx a ma) : MO X T Wx (some a) (oSome ma) := by
  refine PO.imp (po_some ha) fun σ H Q ⟨W, st, σd, A, h⟩ => ?_
  refine step A h fun W1 st1 H1 d x a1 g1 r1 h1 => ?_
  split at h1
  · cases r1; exact ⟨_, rfl, OutG.now h1 a1.abs rfl⟩
  · exact False.elim h1
theorem me_sl (hK : T.K = X.K) (ha : ME X T Wx a ma) (hl : MO X T Wx lo ml) (hh : MO X T Wx hi mh) : ME X T Wx (.Subscript a (.Slice lo hi none p2) pos) (xSl ma ml mh) := by
  refine PE.imp (pe_slice ((sl_tupA.or sl_list).or sl_str) ha hl hh) fun σ H Q ⟨W, st, σd, A, h⟩ => ?_
  refine step A h fun W1 st1 H1 da x a1 g1 r1 h1 => ?_
  refine step a1 h1 fun W2 st2 H2 l l' a2 g2 e2 h2 => ?_
  refine step a2 h2 fun W3 st3 H3 u u' a3 g3 e3 h3 => ?_
  cases e2; cases e3
  obtain ⟨d, e, h3⟩ := OutG.opt h3
  have r3 := (r1.mono a1.abs g2).mono a2.abs g3
  unfold vSl at e
  split at e
  · rename_i xs
    cases e
    cases r3 with
    | tup hq r =>
      rename_i p vs
      refine .inl (.inl ⟨p, vs, rfl, SqT.of hq, fun hw => ?_, fun _ q hq' => newTup a3.abs (r.cut l u) h3 q hq'⟩)
      have : cutL xs l u = xs := by
        unfold cutL
        rw [sIx_eq, sIx_eq, ← r.length, hw.1, hw.2, r.length]
        simp
      rw [this] at h3
      exact OutG.now h3 a3.abs (.tup hq r)
  · rename_i s
    split at e
    · rename_i hz
      cases e
      cases r3
      refine .inr ⟨strOf s, rfl, by rw [strOf_len, ← szL_eq]; exact hz, ?_⟩
      have q := OutG.now h3 a3.abs (Rep.str _)
      have : cutS (strOf s) l u = strOf (cutL s l u) := by
        unfold cutS cutL
        rw [strOf_len, strOf_cps, sIx_eq, sIx_eq]; rfl
      rw [this]; exact q
    · cases e
  · rename_i xs
    cases e
    cases r3 with
    | scr hq r => exact .inl (.inr ⟨_, _, rfl, by rw [← hK]; exact hq.sql, fun q hq' => newFrz a3.abs (r.cut l u) h3 q hq'⟩)
  · simp only [Option.map_eq_some_iff] at e
    obtain ⟨xs, e1, rfl⟩ := e
    obtain ⟨p, vs, rfl, r, hq⟩ := r3.lstR (K := X.K) a3.abs e1
    exact .inl (.inr ⟨p, vs, rfl, hq, fun q hq' => newFrz a3.abs (r.cut l u) h3 q hq'⟩)
theorem liftL {e : Expr} {r : R2} {g : Sto → D → D → Option (List D)} (h : PE X e (tOp r (lE T Wx ma) (lE T Wx mb)))
    (hg : ∀ (W : Wd) (st : Sto) (H : Hp) (da db : D) (ds : List D) (x y : V) (Q : VK), Abs T W st H → Rep T W st H da x → Rep T W st H db y → g st da db = some ds →
      (∀ vs p, H p = none → Reps T W st H ds vs → Q (.ref p) (upd H p (.lst vs))) → r x y H Q) : ML X T Wx e (xOpL g ma mb) := by
  refine PE.imp h fun σ H Q ⟨W, st, σd, a, h⟩ => ?_
  unfold cL xOpL at h
  rw [bind_assoc] at h
  refine step a h fun W1 st1 H1 da x a1 g1 r1 h1 => ?_
  rw [bind_assoc] at h1
  refine step a1 h1 fun W2 st2 H2 db y a2 g2 r2 h2 => ?_
  cases e : g st2 da db with
  | none => rw [e] at h2; exact False.elim h2
  | some ds =>
    rw [e] at h2
    exact hg W2 st2 H2 da db ds x y Q a2.abs (r1.mono a1.abs g2) r2 e fun vs p hp r => newL (g1.trans g2) a2.abs r h2 p hp
/-- a list that stands in the heap -/
theorem Rep.lstH {W : Wd} {st : Sto} {H : Hp} (A : Abs T W st H) {d : D} {v : V} {xs : List D} (e : lstOf st d = some xs) (r : Rep T W st H d v) : ∃ a vs, v = .ref a ∧ Reps T W st H xs vs ∧ H a = some (.lst vs) := by
  cases r <;> simp [lstOf] at e
  · subst e; rename_i a vs h r; exact ⟨a, vs, rfl, r, h.1⟩
  · rename_i l a h
    split at e
    · rename_i ys e3
      cases e
      obtain ⟨vs, e4, r⟩ := A.cell l _ a e3 h
      exact ⟨a, vs, rfl, r, e4⟩
    · cases e
theorem ml_cat (ha : ME X T Wx a ma) (hb : ME X T Wx b mb) : ML X T Wx (.BinOp a .Add b pos) (xOpL lCat ma mb) := by
  refine liftL (pe_op op_cat ha hb) ?_
  intro W st H da db ds x y Q A ra rb e h
  unfold lCat at e
  split at e
  · rename_i xs ys e1 e2
    split at e
    · rename_i hz
      cases e
      obtain ⟨p, vs, rfl, r1, h1⟩ := ra.lstH A e1
      obtain ⟨q, ws, rfl, r2, h2⟩ := rb.lstH A e2
      exact ⟨p, q, vs, ws, rfl, rfl, h1, h2, by rw [r1.length, r2.length, ← szL_eq]; exact hz, fun p hp => h _ p hp (r1.append r2)⟩
    · cases e
  · cases e
end
end Mi
end
section
set_option Elab.async false
set_option linter.all false
set_option maxRecDepth 100000
set_option autoImplicit false
namespace Mi
open PySem L2
section
variable {X : Cx} {T : Tb} {Wx : WX} {e : Expr} {es : List Expr} {ma : XA} {pos p : Pos}
theorem liftB {ex : Expr} {r : List V → Hp → VK → Prop} {g : Sto → List D → Option D} (h : PE X ex (tCB r (lA T Wx ma)))
    (hg : ∀ (W : Wd) (st : Sto) (H : Hp) (ds : List D) (d : D) (xs : List V) (Q : VK), Abs T W st H → Reps T W st H ds xs → g st ds = some d →
      (∀ W' H' v, Grow W st H W' st H' → Abs T W' st H' → Rep T W' st H' d v → Q v H') → r xs H Q) : ME X T Wx ex (xB g ma) := by
  refine PE.imp h fun σ H Q ⟨W, st, σd, a, h⟩ => ?_
  refine step a h fun W1 st1 H1 ds xs a1 g1 r1 h1 => ?_
  obtain ⟨d, e, h1⟩ := OutG.opt h1
  exact hg W1 st1 H1 ds d xs Q a1.abs r1 e h1
theorem liftBL {ex : Expr} {r : List V → Hp → VK → Prop} {g : Sto → List D → Option (List D)} (h : PE X ex (tCB r (lA T Wx ma)))
    (hg : ∀ (W : Wd) (st : Sto) (H : Hp) (ds ys : List D) (xs : List V) (Q : VK), Abs T W st H → Reps T W st H ds xs → g st ds = some ys →
      (∀ vs p, H p = none → Reps T W st H ys vs → Q (.ref p) (upd H p (.lst vs))) → r xs H Q) : ML X T Wx ex (xBL g ma) := by
  refine PE.imp h fun σ H Q ⟨W, st, σd, a, h⟩ => ?_
  unfold cL xBL at h
  rw [bind_assoc] at h
  refine step a h fun W1 st1 H1 ds xs a1 g1 r1 h1 => ?_
  cases e : g st1 ds with
  | none => rw [e] at h1; exact False.elim h1
  | some ys =>
    rw [e] at h1
    exact hg W1 st1 H1 ds ys xs Q a1.abs r1 e fun vs q hq r => newL g1 a1.abs r h1 q hq
/-- a call by a built-in's name -/
structure Bl (X : Cx) (x : PySem.Str) (v : Value) : Prop where
  g : Gl X x
  m : X.mg x = none
  b : bootBuiltins x = some v
  n : x ≠ "__name__"
  d : (x == ("__debug__" : PySem.Str)) = false
theorem pe_bl' {x : PySem.Str} {id : String} {r : List V → Hp → VK → Prop} {t : TA} (B : Bl X x (.builtin id)) (hc : CallR X (.builtin id) r) (ha : PA X (e :: es) t)
    (he : starEach (e :: es) X.env = (false, eval e X.env) :: starEach es X.env := by rfl) (hpl : (backTo pos (starEach es X.env)).any (·.1) = false := by rfl) : PE X (.Call (.Name x p) (e :: es) [] pos) (tCB r t) :=
  pe_callB hc B.g B.m B.b ha B.n B.d he hpl
theorem pe_ty' {x : PySem.Str} {id : String} {r : List V → Hp → VK → Prop} {t : TA} (B : Bl X x (.type id)) (hc : CallR X (.type id) r) (ha : PA X (e :: es) t)
    (he : starEach (e :: es) X.env = (false, eval e X.env) :: starEach es X.env := by rfl) (hpl : (backTo pos (starEach es X.env)).any (·.1) = false := by rfl) : PE X (.Call (.Name x p) (e :: es) [] pos) (tCB r t) :=
  pe_callTy hc B.g B.m B.b ha B.n B.d he hpl
theorem reps1 {W : Wd} {st : Sto} {H : Hp} {d : D} {xs : List V} (r : Reps T W st H [d] xs) : ∃ x, xs = [x] ∧ Rep T W st H d x := by
  cases r with
  | cons h r => cases r; exact ⟨_, rfl, h⟩
theorem reps2 {W : Wd} {st : Sto} {H : Hp} {d d' : D} {xs : List V} (r : Reps T W st H [d, d'] xs) : ∃ x y, xs = [x, y] ∧ Rep T W st H d x ∧ Rep T W st H d' y := by
  cases r with
  | cons h r =>
    obtain ⟨y, rfl, h'⟩ := reps1 r
    exact ⟨_, _, rfl, h, h'⟩
theorem RepK.len {W : Wd} {st : Sto} {H : Hp} : ∀ {kvs : List (D × D)} {vs : List (Key × V)}, RepK T W st H kvs vs → vs.length = kvs.length
  | _, _, .nil => rfl
  | _, _, .cons _ _ r => by simp [r.len]
theorem RepT.len {W : Wd} {st : Sto} {H : Hp} : ∀ {kvs : List (D × D)} {vs : List (List Key × V)}, RepT T W st H kvs vs → vs.length = kvs.length
  | _, _, .nil => rfl
  | _, _, .cons _ _ r => by simp [r.len]
def rLenDR : List V → Hp → VK → Prop := fun xs H Q => ∃ a n, xs = [.ref a] ∧ ((∃ kvs, Rd H a (.dK kvs) ∧ n = kvs.length) ∨ ∃ kvs, Rd H a (.dT kvs) ∧ n = kvs.length) ∧ Q (.int (n : Nat)) H
theorem call_lenDR : CallR X (.builtin "len") rLenDR := by
  intro pins s σ H xs us Q I r h
  obtain ⟨a, n, rfl, ha, q⟩ := h
  obtain ⟨u, rfl, ru⟩ := vals1 r
  cases ru
  rcases ha with ⟨kvs, ha, rfl⟩ | ⟨kvs, ha, rfl⟩
  · exact d_len I ha fun t s' I' => ⟨.int kvs.length, H, I', ⟨t, rfl⟩, q⟩
  · obtain ⟨z, hd, ys, rel, dd⟩ := dt_rd I.hok ha
    have hl : kvs.length = ys.length := Paired.length rel
    refine call_len_dictH hd dd (by rw [← hl]; rw [sizeLine_eq] at z; omega) ?_
    rw [← hl]
    exact ⟨.int ((kvs.length : Nat) : Int), H, I.tok _, ⟨_, rfl⟩, q⟩
theorem me_len (B : Bl X "len" (.builtin "len")) (ha : MA X T Wx (e :: es) ma)
    (he : starEach (e :: es) X.env = (false, eval e X.env) :: starEach es X.env := by rfl) (hpl : (backTo pos (starEach es X.env)).any (·.1) = false := by rfl) : ME X T Wx (.Call (.Name "len" p) (e :: es) [] pos) (xB vLen ma) := by
  refine liftB (pe_bl' B (call_len.or call_lenDR) ha he hpl) ?_
  intro W st H ds d xs Q A r e h
  unfold vLen at e
  split at e
  · rename_i s
    obtain ⟨x, hx, r0⟩ := reps1 r
    clear r; subst hx; rename Rep T W st H _ _ => r
    cases r
    split at e
    · rename_i hz
      cases e
      refine .inl ⟨_, s.length, rfl, (show _ ∧ _ from ⟨by rw [strOf_len, ← szL_eq]; exact hz, by rw [strOf_len]⟩), stay A h (.int _)⟩
    · cases e
  · rename_i d0 _
    obtain ⟨x, hx, r0⟩ := reps1 r
    clear r; subst hx; rename Rep T W st H _ _ => r
    split at e
    · rename_i kvs e1
      cases e
      obtain ⟨a, rfl, c⟩ := r.dct A e1
      rcases c with ⟨vs, e2, r2⟩ | ⟨vs, e2, r2⟩
      · exact .inr ⟨a, _, rfl, .inl ⟨vs, e2, rfl⟩, by rw [r2.len]; exact stay A h (.int _)⟩
      · exact .inr ⟨a, _, rfl, .inr ⟨vs, e2, rfl⟩, by rw [r2.len]; exact stay A h (.int _)⟩
    · simp only [Option.map_eq_some_iff] at e
      obtain ⟨ys, e1, rfl⟩ := e
      obtain ⟨a, vs, rfl, r2, hq⟩ := r.seq (K := X.K) A e1
      refine .inl ⟨_, vs.length, rfl, (show _ ∨ _ from hq.imp (fun q => ⟨vs, q, rfl⟩) (fun q => ⟨vs, q, rfl⟩)), ?_⟩
      rw [r2.length]
      exact stay A h (.int _)
  · cases e
theorem me_abs (B : Bl X "abs" (.builtin "abs")) (ha : MA X T Wx (e :: es) ma)
    (he : starEach (e :: es) X.env = (false, eval e X.env) :: starEach es X.env := by rfl) (hpl : (backTo pos (starEach es X.env)).any (·.1) = false := by rfl) : ME X T Wx (.Call (.Name "abs" p) (e :: es) [] pos) (xB vAbs ma) := by
  refine liftB (pe_bl' B call_abs ha he hpl) ?_
  intro W st H ds d xs Q A r e h
  unfold vAbs at e
  split at e
  · obtain ⟨x, hx, r0⟩ := reps1 r
    clear r; subst hx; rename Rep T W st H _ _ => r
    cases r; cases e
    exact ⟨_, rfl, stay A h (.int _)⟩
  · cases e
theorem me_intc (B : Bl X "int" (.type "int")) (ha : MA X T Wx (e :: es) ma)
    (he : starEach (e :: es) X.env = (false, eval e X.env) :: starEach es X.env := by rfl) (hpl : (backTo pos (starEach es X.env)).any (·.1) = false := by rfl) : ME X T Wx (.Call (.Name "int" p) (e :: es) [] pos) (xB vInt ma) := by
  refine liftB (pe_ty' B call_int1 ha he hpl) ?_
  intro W st H ds d xs Q A r e h
  unfold vInt at e
  split at e
  · obtain ⟨x, hx, r0⟩ := reps1 r
    clear r; subst hx; rename Rep T W st H _ _ => r
    cases r; cases e
    exact .inl ⟨_, rfl, stay A h (.int _)⟩
  · obtain ⟨x, hx, r0⟩ := reps1 r
    clear r; subst hx; rename Rep T W st H _ _ => r
    cases r; cases e
    exact .inr ⟨_, rfl, stay A h (.int _)⟩
  · cases e
theorem ints_of {W : Wd} {st : Sto} {H : Hp} : ∀ {ds : List D} {vs : List V} {ns : List Int}, Reps T W st H ds vs → intsOf ds = some ns → vs = ns.map V.int
  | [], _, _, r, e => by cases r; cases e; rfl
  | d :: ds, _, ns, r, e => by
    cases r with
    | cons h r =>
      cases d <;> simp only [intsOf] at e <;> first | (cases e; done) | skip
      simp only [Option.map_eq_some_iff] at e
      obtain ⟨ms, e1, rfl⟩ := e
      cases h
      rw [ints_of r e1]; rfl
theorem bls_of {W : Wd} {st : Sto} {H : Hp} : ∀ {ds : List D} {vs : List V} {ns : List Bool}, Reps T W st H ds vs → blsOf ds = some ns → vs = ns.map V.bl
  | [], _, _, r, e => by cases r; cases e; rfl
  | d :: ds, _, ns, r, e => by
    cases r with
    | cons h r =>
      cases d <;> simp only [blsOf] at e <;> first | (cases e; done) | skip
      simp only [Option.map_eq_some_iff] at e
      obtain ⟨ms, e1, rfl⟩ := e
      cases h
      rw [bls_of r e1]; rfl
theorem me_sum (hc : X.calm = true) (B : Bl X "sum" (.builtin "sum")) (ha : MA X T Wx (e :: es) ma)
    (he : starEach (e :: es) X.env = (false, eval e X.env) :: starEach es X.env := by rfl) (hpl : (backTo pos (starEach es X.env)).any (·.1) = false := by rfl) : ME X T Wx (.Call (.Name "sum" p) (e :: es) [] pos) (xB vSum ma) := by
  refine liftB (pe_bl' B (cr_sum hc) ha he hpl) ?_
  intro W st H ds d xs Q A r e h
  unfold vSum at e
  split at e
  · obtain ⟨x, hx, r0⟩ := reps1 r
    clear r; subst hx; rename Rep T W st H _ _ => r
    simp only [Option.map_eq_some_iff, Option.bind_eq_some_iff] at e
    obtain ⟨ns, ⟨ys, e1, e2⟩, rfl⟩ := e
    obtain ⟨a, vs, rfl, r2, hq⟩ := r.lstR (K := X.K) A e1
    rw [ints_of r2 e2] at hq
    exact ⟨a, ns, rfl, hq, stay A h (.int _)⟩
  · cases e
theorem me_all (hc : X.calm = true) (B : Bl X "all" (.builtin "all")) (ha : MA X T Wx (e :: es) ma)
    (he : starEach (e :: es) X.env = (false, eval e X.env) :: starEach es X.env := by rfl) (hpl : (backTo pos (starEach es X.env)).any (·.1) = false := by rfl) : ME X T Wx (.Call (.Name "all" p) (e :: es) [] pos) (xB vAll ma) := by
  refine liftB (pe_bl' B (cr_all hc) ha he hpl) ?_
  intro W st H ds d xs Q A r e h
  unfold vAll at e
  split at e
  · obtain ⟨x, hx, r0⟩ := reps1 r
    clear r; subst hx; rename Rep T W st H _ _ => r
    simp only [Option.map_eq_some_iff, Option.bind_eq_some_iff] at e
    obtain ⟨ns, ⟨ys, e1, e2⟩, rfl⟩ := e
    obtain ⟨a, vs, rfl, r2, hq⟩ := r.lstR (K := X.K) A e1
    rw [bls_of r2 e2] at hq
    exact ⟨a, ns, rfl, hq, stay A h (.bl _)⟩
  · cases e
theorem me_tuplec (B : Bl X "tuple" (.type "tuple")) (ha : MA X T Wx (e :: es) ma)
    (he : starEach (e :: es) X.env = (false, eval e X.env) :: starEach es X.env := by rfl) (hpl : (backTo pos (starEach es X.env)).any (·.1) = false := by rfl) : ME X T Wx (.Call (.Name "tuple" p) (e :: es) [] pos) (xB vTuple ma) := by
  refine liftB (pe_ty' B call_tuple_of ha he hpl) ?_
  intro W st H ds d xs Q A r e h
  unfold vTuple at e
  split at e
  · rename_i d0
    obtain ⟨x, hx, r0⟩ := reps1 r
    clear r; subst hx; rename Rep T W st H _ _ => r
    simp only [Option.map_eq_some_iff] at e
    obtain ⟨ys, e1, rfl⟩ := e
    cases d0 with
    | tup zs =>
      cases e1
      cases r with
      | tup hh rr => exact ⟨_, _, rfl, .inr ⟨SqT.of hh, stay A h (.tup hh rr)⟩⟩
    | lst zs =>
      obtain ⟨a, vs, rfl, r2, hq⟩ := r.lstR (K := X.K) A (show lstOf st (.lst zs) = some ys from e1)
      exact ⟨a, vs, rfl, .inl ⟨hq, fun l hl => newTup A r2 h l hl⟩⟩
    | loc l =>
      obtain ⟨a, vs, rfl, r2, hq⟩ := r.lstR (K := X.K) A (show lstOf st (.loc l) = some ys from e1)
      exact ⟨a, vs, rfl, .inl ⟨hq, fun l hl => newTup A r2 h l hl⟩⟩
    | _ => cases e1
  · cases e
end
end Mi
end
section
set_option Elab.async false
set_option linter.all false
set_option maxRecDepth 100000
set_option autoImplicit false
namespace Mi
open PySem L2
/-- a value's class -/
def TyW (X : Cx) (H : Hp) (x : V) (t : Value) : Prop := ∀ (pins : List (Addr × Obj)) (σ : L2.St) (s : Shared) (u : Value), L2.Inv X pins σ H s → RelV x u →
  ∃ P : Heap → Prop, PySem.W.KitX X.K u t P ∧ P s.heap ∧ u ≠ .builtin "__main__.__loader__#opaque"
structure InsOk (K : PySem.W.Frag) (C : Addr) : Prop where
  cl : Cls K C
  ha : PySem.W.findIn K (.ref C) "__class__" = some (some (.builtin "object.__class__"))
  hn : PySem.W.specialIn K (.builtin "object.__class__") "__get__" = some (some (.builtin "getset_descriptor.__get__"))
  ht : PySem.W.takesIn K (.builtin "object.__class__") = some true
  hm : PySem.W.mroIn K C (.type "object") = some true
def kdV (T : Ts) : Kd → Value
  | .non => .type "NoneType"
  | .bl => .type "bool"
  | .int => .type "int"
  | .str => .type "str"
  | .tup => .type "tuple"
  | .lst => .type "list"
  | .dct => .type "dict"
  | .own c => .ref (T.ca c)
/-- what the text says of such a test -/
structure IsiOk (K : PySem.W.Frag) (T : Ts) (cs : List Nat) (ts : List Ty) (us : List Value) : Prop where
  b : ∀ k ∈ [Kd.non, .bl, .int, .str, .tup, .lst, .dct], PySem.W.kitAny K (kdV T k) us = some (ts.any k.isT)
  i : ∀ c ∈ cs, PySem.W.kitAny K (.ref (T.ca c)) us = some (ts.any (Kd.own c).isT)
  k : ∀ c ∈ cs, InsOk K (T.ca c)
section
variable {X : Cx} {T : Tb} {Wx : WX} {W : Wd} {st : Sto} {H : Hp}
theorem tyW_of {x : V} {t : Value} (h : TyX X.K H x t) : TyW X H x t := fun _ _ _ _ I rx => kit_of I rx h
theorem rep_ty (A : Abs T W st H) {d : D} {v : V} {k : Kd} {cs : List Nat} (e : kdOf st d = some k) (r : Rep T W st H d v) (hc : k.okIn cs = true) (hk : ∀ c ∈ cs, InsOk X.K (T.ca c)) : TyW X H v (kdV T.toTs k) := by
  have inst : ∀ {c : Nat} {a dx : Addr} {fs : List (PySem.Str × V)}, (Kd.own c).okIn cs = true → H a = some (.ins (T.ca c) dx fs) → TyW X H (.ref a) (kdV T.toTs (.own c)) := fun {c a dx fs} h e => by
    have q := hk c (by simpa [Kd.okIn] using h)
    exact tyW_of (.base (.ins e q.cl q.ha q.hn q.ht q.hm))
  cases r <;> simp only [kdOf] at e <;> first | (cases e; done) | skip
  · cases e; exact tyW_of (.base .non)
  · cases e; exact tyW_of (.base (.bl _))
  · cases e; exact tyW_of (.base (.int _))
  · cases e; exact tyW_of (.base (.str _))
  · cases e; rename_i h _; exact tyW_of (.base (.tup h))
  · cases e; rename_i h _; exact tyW_of (.base (.lst h.1))
  · cases e
    rename_i h _
    rcases h with ⟨h, _⟩ | ⟨o, h⟩
    · exact tyW_of (.base (.dK h))
    · exact tyW_of (.fDict h)
  · cases e
    rename_i a vs h _
    rcases h with ⟨h, _⟩ | ⟨o, h⟩
    · exact tyW_of (.base (.dT h))
    · intro pins σ s u I rx
      cases (show u = Value.ref a from rx)
      obtain ⟨_, _, _, xs, _, ob, es, ep, h1, h2, _⟩ := (show ObjOk X.prog X.w H s.heap a (.frz o (.dT vs)) from I.hok a _ h)
      exact ⟨_, PySem.W.kitx_dict, ⟨ob, h1, h2.1⟩, fun z => nomatch z⟩
  · cases e; rename_i h _ _ _; exact inst hc h
  · rename_i l a h
    split at e <;> first | (cases e; done) | skip
    · rename_i xs e1
      cases e
      obtain ⟨vs, e2, _⟩ := A.cell l _ a e1 h
      exact tyW_of (.base (.lst e2))
    · rename_i xs e1
      cases e
      rcases A.cell l _ a e1 h with ⟨vs, e2, _⟩ | ⟨vs, e2, _⟩
      · exact tyW_of (.base (.dK e2))
      · exact tyW_of (.base (.dT e2))
    · rename_i c fs e1
      cases e
      obtain ⟨dx, vs, e2, _⟩ := A.cell l _ a e1 h
      exact inst hc e2
theorem IsiOk.get {K : PySem.W.Frag} {cs : List Nat} {ts : List Ty} {us : List Value} (F : IsiOk K T.toTs cs ts us) {k : Kd} (h : k.okIn cs = true) : PySem.W.kitAny K (kdV T.toTs k) us = some (ts.any k.isT) := by
  cases k with
  | own c => exact F.i c (by simpa [Kd.okIn] using h)
  | _ => exact F.b _ (by simp)
theorem kitOne_of {K : PySem.W.Frag} {t u : Value} {b : Bool} (h : PySem.W.kitAny K t [u] = some b) : PySem.W.kitOne K t u = some b := by
  unfold PySem.W.kitAny at h
  split at h
  · rename_i e; cases h; exact e
  · rename_i e; cases h; exact e
  · cases h
theorem call_isiW : CallR X (.builtin "isinstance") (fun xs H Q => ∃ x c t u b, xs = [x, c] ∧ ClsV c u ∧ TyW X H x t ∧ PySem.W.kitOne X.K t u = some b ∧ Q (.bl b) H) := by
  intro pins s σ H xs us Q I r h
  obtain ⟨x, c, t, u, b, rfl, k, ty, e, q⟩ := h
  obtain ⟨u1, u2, rfl, r1, r2⟩ := vals2 r
  have e2 := k.eq r2
  subst e2
  obtain ⟨P, Z, p, hx⟩ := ty pins σ s u1 I r1
  exact PySem.W.kia_one Z I.kIn p e hx fun tk => ⟨.bl b, H, I.tok tk, rfl, q⟩
variable {a c : Expr} {ma : XE} {p pos : Pos} {cs : List Nat} {ts : List Ty}
/-- a class's name -/
structure ClsE (X : Cx) (c : Expr) (u : Value) : Prop where
  ex : ∃ v, PE X c (tC v) ∧ ClsV v u
theorem clsE_ty {x : PySem.Str} {n : String} {pos : Pos} (B : Bl X x (.type n)) : ClsE X (.Name x pos) (.type n) := ⟨.ty n, pe_bltn B.g B.m B.b rfl B.n B.d, .ty n⟩
theorem clsE_own {x : PySem.Str} {C : Addr} {pos : Pos} (hg : Gl X x) (hm : X.mg x = some (.ref C)) (hd : (x == ("__debug__" : PySem.Str)) = false := by decide) : ClsE X (.Name x pos) (.ref C) := ⟨.ref C, pe_glob hg hm rfl hd, .own C⟩
theorem isi_out {u : Value} {us : List Value} {A : Abs T W st H} {d : D} {v : V} {r : D} (F : IsiOk X.K T.toTs cs ts us) (rv : Rep T W st H d v) (e : vIsT cs ts st d = some r) : ∃ t b, TyW X H v t ∧ PySem.W.kitAny X.K t us = some b ∧ r = .bl b := by
  unfold vIsT at e
  split at e
  · rename_i k ek
    split at e
    · rename_i hc
      cases e
      exact ⟨_, _, rep_ty A ek rv hc F.k, F.get hc, rfl⟩
    · cases e
  · cases e
theorem me_isi {u : Value} (B : Bl X "isinstance" (.builtin "isinstance")) (F : IsiOk X.K T.toTs cs ts [u]) (ha : ME X T Wx a ma) (hc : ClsE X c u)
    (hs1 : starEach [a, c] X.env = (false, eval a X.env) :: starEach [c] X.env := by rfl) (hs2 : starEach [c] X.env = (false, eval c X.env) :: starEach [] X.env := by rfl) (hpl : (backTo pos (starEach [c] X.env)).any (·.1) = false := by rfl) :
    ME X T Wx (.Call (.Name "isinstance" p) [a, c] [] pos) (xUn (vIsT cs ts) ma) := by
  obtain ⟨cv, hcv, hk⟩ := hc.ex
  refine PE.imp (pe_bl' B call_isiW (pa_cons ha (pa_cons hcv pa_nil hs2) hs1) hs1 hpl) fun σ H Q ⟨W, st, σd, A, h⟩ => ?_
  refine step A h fun W1 st1 H1 d x a1 g1 r1 h1 => ?_
  obtain ⟨r, e, h1⟩ := OutG.opt h1
  obtain ⟨t, b, ty, hb, rfl⟩ := isi_out (A := a1.abs) (u := u) F r1 e
  exact ⟨x, cv, t, u, b, rfl, hk, ty, kitOne_of hb, OutG.now h1 a1.abs (.bl b)⟩
/-- the classes of a tuple -/
inductive ClsEs (X : Cx) : List Expr → List Value → Prop
  | nil : ClsEs X [] []
  | cons {c : Expr} {cs : List Expr} {u : Value} {us : List Value} (h : ClsE X c u) (hs : starEach (c :: cs) X.env = (false, eval c X.env) :: starEach cs X.env) (r : ClsEs X cs us) : ClsEs X (c :: cs) (u :: us)
theorem ClsEs.pa : ∀ {es : List Expr} {us : List Value}, ClsEs X es us → ∃ vs, PA X es (fun σ H Q => Q vs H) ∧ Paired ClsV vs us
  | _, _, .nil => ⟨[], pa_nil, .nil⟩
  | _, _, .cons h hs r => by
    obtain ⟨v, h1, h2⟩ := h.ex
    obtain ⟨vs, h3, h4⟩ := r.pa
    exact ⟨v :: vs, PA.imp (pa_cons h1 h3 hs) fun σ H Q q => q, .cons h2 h4⟩
theorem TyW.up {v : V} {d : D} {k : Kd} {W' : Wd} {H' : Hp} (A : Abs T W st H) (g : Grow W st H W' st H') (A' : Abs T W' st H') (e : kdOf st d = some k) (r : Rep T W st H d v) (hc : k.okIn cs = true) (hk : ∀ c ∈ cs, InsOk X.K (T.ca c)) : TyW X H' v (kdV T.toTs k) :=
  rep_ty A' e (r.mono A g) hc hk
end
end Mi
end
section
set_option Elab.async false
set_option linter.all false
set_option maxRecDepth 100000
set_option autoImplicit false
namespace Mi
open PySem L2
section
variable {T : Tb} {W : Wd} {st : Sto} {H : Hp}
theorem liv_at {l : Nat} {a : Addr} {c : Cell} (hr : W.rho[l]? = some a) (hc : st[l]? = some c) (hn : c ≠ .dead) : LivO W st a := ⟨l, c, hr, hc, hn⟩
theorem Grow.wr (A : Abs T W st H) {l : Nat} {a : Addr} {c c' : Cell} {o' : HO} (hr : W.rho[l]? = some a) (hc : st[l]? = some c) (hn : c ≠ .dead) (hto : ∀ ps, o' ≠ .tbl ps) : Grow W st H W (st.set l c') (upd H a o') where
  fbs := fun _ h => h
  fbn := fun _ h => .inl h
  rho := List.prefix_refl _
  keep := fun x o h n _ => by
    have : x ≠ a := fun e => n (by rw [e]; exact liv_at hr hc hn)
    rw [upd_ne this]; exact .inl h
  new := fun x ⟨i, c2, e1, e2, n2⟩ => by
    by_cases hi : l = i
    · subst hi
      rw [hr] at e1; cases e1
      exact .inl (liv_at hr hc hn)
    · rw [List.getElem?_set_ne hi] at e2
      exact .inl ⟨i, c2, e1, e2, n2⟩
  still := fun x o h t => by
    by_cases hx : x = a
    · subst hx; exact ⟨o', upd_same, hto⟩
    · exact ⟨o, by rw [upd_ne hx]; exact h, t⟩
theorem Abs.tabs_liv (A : Abs T W st H) {l : Nat} {a : Addr} {c : Cell} {o' : HO} (hr : W.rho[l]? = some a) (hc : st[l]? = some c) (hn : c ≠ .dead) : LamX.Tabs T.tb (upd H a o') := by
  rcases A.kind (liv_at hr hc hn) with ⟨_, e⟩ | ⟨_, e⟩ | ⟨_, e⟩ | ⟨_, _, _, e⟩ <;> exact tabs_wr A.tabs e (fun _ z => by cases z) (fun _ z => by cases z)
/-- the cell l is written -/
theorem Abs.wr (A : Abs T W st H) {l : Nat} {a : Addr} {c c' : Cell} {o' : HO} (hr : W.rho[l]? = some a) (hc : st[l]? = some c) (hn : c ≠ .dead) (hto : ∀ ps, o' ≠ .tbl ps) (hk : CellOk T W (st.set l c') (upd H a o') c' a) : Abs T W (st.set l c') (upd H a o') := by
  have g : Grow W st H W (st.set l c') (upd H a o') := Grow.wr A hr hc hn hto
  refine ⟨by rw [List.length_set]; exact A.len, fun i c2 x e1 e2 => ?_, fun i i' x c1 c2 e1 e2 e3 e4 n1 n2 => ?_, fun x ⟨i, c2, e1, e2, n2⟩ => ?_, fun x hx => ?_, A.tabs_liv hr hc hn⟩
  · by_cases hi : l = i
    · subst hi
      rw [hr] at e2; cases e2
      rw [List.getElem?_set_self (List.getElem?_eq_some_iff.mp hc).1] at e1
      cases e1; exact hk
    · rw [List.getElem?_set_ne hi] at e1
      by_cases hd : c2 = .dead
      · subst hd; trivial
      · refine (A.cell i c2 x e1 e2).to (g.to A) fun o e _ => ?_
        have : x ≠ a := fun z => hi (A.one l i x c c2 (by rw [z]; exact hr) e2 hc e1 hn hd)
        rw [upd_ne this]; exact e
  · have key : ∀ {j : Nat} {d : Cell}, (st.set l c')[j]? = some d → d ≠ .dead → ∃ d0, st[j]? = some d0 ∧ d0 ≠ .dead := fun {j d} e n => by
      by_cases hj : l = j
      · subst hj; exact ⟨c, hc, hn⟩
      · rw [List.getElem?_set_ne hj] at e; exact ⟨d, e, n⟩
    obtain ⟨d1, f1, m1⟩ := key e3 n1
    obtain ⟨d2, f2, m2⟩ := key e4 n2
    exact A.one i i' x d1 d2 e1 e2 f1 f2 m1 m2
  · rcases g.new x ⟨i, c2, e1, e2, n2⟩ with q | q
    · exact A.out x q
    · intro hx
      obtain ⟨o, e, t⟩ := A.fbt x hx
      exact q.no e t
  · obtain ⟨o, e, t⟩ := A.fbt x hx
    exact g.still x o e t
end
section
variable {X : Cx} {T : Tb} {Wx : WX} {o e f : Expr} {es : List Expr} {mo mi : XE} {ma : XA} {apos cpos : Pos}
theorem ty_dict : TyOk X "dict" (fun x H => ∃ a, x = .ref a ∧ IsD H a) := by
  intro pins σ H s x v I r ⟨a, e, d⟩
  subst e
  cases r
  obtain ⟨t1, t2, _⟩ := isD_at I d
  exact ⟨t1, t2⟩
theorem ty_list : TyOk X "list" (fun x H => ∃ a xs, x = .ref a ∧ SqL X.K H a xs) := by
  intro pins σ H s x v I r ⟨a, xs, e, d⟩
  subst e
  cases r
  obtain ⟨its, _, pl, _⟩ := I.list d
  refine ⟨pl.isList.typeIs, fun b e => ?_⟩
  cases e
  obtain ⟨o, n, e, c, hd, _⟩ := pl
  exact ⟨o, e, hd⟩
/-- the shape of a method's call with arguments -/
structure Mc (X : Cx) (o : Expr) (name : PySem.Str) (apos : Pos) (e : Expr) (es : List Expr) (cpos : Pos) : Prop where
  hb : attributeBase o name X.env (eval o X.env) = eval o X.env
  few : ((backTo cpos (starEach (e :: es) X.env)).all (fun x => !x.1) && (backToKw cpos (keywordEach [] X.env)).all (fun x => x.1.isSome)
      && decide ((e :: es).length + ([] : List Keyword).length + (if ([] : List Keyword).isEmpty then 0 else 1) < 30)) = true
  line : (apos.endLine == cpos.line) = true
  st : starEach (e :: es) X.env = (false, eval e X.env) :: starEach es X.env
  pl : (backTo cpos (starEach es X.env)).any (·.1) = false
theorem liftM {name : PySem.Str} {id ty : String} {tp : V → Hp → Prop} {r : V → List V → Hp → VK → Prop} {kd : Cell → Bool} {g : Cell → List D → Sto → Option (D × Cell)} (ht : TyOk X ty tp) (pa : PlainAttrs ty) (slot : Slot ty name id) (hty : typeOf (.builtin id) = pure (.type "method_descriptor")) (hm : MtR X id r)
    (ho : ME X T Wx o mo) (ha : MA X T Wx (e :: es) ma) (m : Mc X o name apos e es cpos)
    (h1 : ∀ (W : Wd) (st : Sto) (H : Hp) (l : Nat) (c : Cell) (a : Addr), Abs T W st H → st[l]? = some c → W.rho[l]? = some a → kd c = true → tp (.ref a) H)
    (h2 : ∀ (W : Wd) (st : Sto) (H : Hp) (l : Nat) (c c' : Cell) (a : Addr) (ds : List D) (d : D) (xs : List V) (Q : VK), Abs T W st H → st[l]? = some c → W.rho[l]? = some a → Reps T W st H ds xs → g c ds st = some (d, c') →
      (∀ H' v, Grow W st H W (st.set l c') H' → Abs T W (st.set l c') H' → Rep T W (st.set l c') H' d v → Q v H') → r (.ref a) xs H Q) :
    ME X T Wx (.Call (.Attribute o name apos) (e :: es) [] cpos) (xM kd g mo ma) := by
  refine PE.imp (pe_mG ht pa slot hty hm ho ha m.hb m.few m.line m.st m.pl) fun σ H Q ⟨W, st, σd, A, h⟩ => ?_
  refine step A h fun W1 st1 H1 d x a1 g1 r1 q1 => ?_
  split at q1
  · rename_i l
    cases r1 with
    | loc hl =>
      rename_i a
      split at q1
      · rename_i c1 hc1
        split at q1
        · rename_i hk
          refine ⟨h1 W1 st1 H1 l c1 a a1.abs hc1 hl hk, ?_⟩
          refine step a1 q1 fun W2 st2 H2 ds xs a2 g2 r2 q2 => ?_
          have hl2 := pre_get g2.rho hl
          split at q2
          · rename_i c hc
            split at q2
            · rename_i dd c' eg
              exact h2 W2 st2 H2 l c c' a ds dd xs Q a2.abs hc hl2 r2 eg fun H' v gg AA rr => q2 W2 H' v gg AA rr
            · exact False.elim q2
          · exact False.elim q2
        · exact False.elim q1
      · exact False.elim q1
  · exact False.elim q1
theorem tp_lst {W : Wd} {st : Sto} {H : Hp} {l : Nat} {c : Cell} {a : Addr} (A : Abs T W st H) (hc : st[l]? = some c) (hr : W.rho[l]? = some a) (hk : c.isLst = true) : ∃ b xs, V.ref a = .ref b ∧ SqL X.K H b xs := by
  cases c with
  | lst xs => obtain ⟨vs, e, _⟩ := A.cell l _ a hc hr; exact ⟨a, vs, rfl, SqL.of e⟩
  | _ => cases hk
theorem tp_dct {W : Wd} {st : Sto} {H : Hp} {l : Nat} {c : Cell} {a : Addr} (A : Abs T W st H) (hc : st[l]? = some c) (hr : W.rho[l]? = some a) (hk : c.isDct = true) : ∃ b, V.ref a = .ref b ∧ IsD H b := by
  cases c with
  | dct kvs =>
    rcases A.cell l _ a hc hr with ⟨vs, e, _⟩ | ⟨vs, e, _⟩
    · exact ⟨a, rfl, .inl ⟨vs, .inl e⟩⟩
    · exact ⟨a, rfl, .inr ⟨vs, .inl e⟩⟩
  | _ => cases hk
/-- the list's cell l becomes ys -/
theorem wrL {W : Wd} {st : Sto} {H : Hp} {l : Nat} {c : Cell} {a : Addr} {ds : List D} {d : D} {vs : List V} {v : V} {Q : VK} (A : Abs T W st H) (hc : st[l]? = some c) (hn : c ≠ .dead) (hr : W.rho[l]? = some a) (rs : Reps T W st H ds vs) (rv : Rep T W st H d v)
    (h : ∀ H' v, Grow W st H W (st.set l (.lst ds)) H' → Abs T W (st.set l (.lst ds)) H' → Rep T W (st.set l (.lst ds)) H' d v → Q v H') : Q v (upd H a (.lst vs)) := by
  have g : Grow W st H W (st.set l (.lst ds)) (upd H a (.lst vs)) := Grow.wr A hr hc hn (fun _ z => by cases z)
  exact h _ v g (A.wr hr hc hn (fun _ z => by cases z) ⟨vs, upd_same, rs.mono A g⟩) (rv.mono A g)
theorem me_append (ho : ME X T Wx o mo) (ha : MA X T Wx (e :: es) ma) (m : Mc X o "append" apos e es cpos) : ME X T Wx (.Call (.Attribute o "append" apos) (e :: es) [] cpos) (xM Cell.isLst mAppend mo ma) := by
  refine liftM ty_list PySem.F.plainAttrs_list PySem.F.slot_list_append PySem.F.type_list_append mt_append ho ha m (fun _ _ _ _ _ _ A hc hr hk => tp_lst A hc hr hk) ?_
  intro W st H l c c' a ds d xs Q A hc hr rs e h
  unfold mAppend at e
  split at e
  · rename_i ys d0
    split at e
    · rename_i hz
      cases e
      obtain ⟨vs, e1, r1⟩ := A.cell l _ a hc hr
      obtain ⟨x, hx, r2⟩ := reps1 rs
      refine ⟨a, vs, x, rfl, hx, e1, by rw [r1.length, ← szL_eq]; exact hz, wrL A hc (fun z => by cases z) hr (r1.append (.cons r2 .nil)) .non h⟩
    · cases e
  · cases e
theorem me_extend (ho : ME X T Wx o mo) (ha : MA X T Wx (e :: es) ma) (m : Mc X o "extend" apos e es cpos) : ME X T Wx (.Call (.Attribute o "extend" apos) (e :: es) [] cpos) (xM Cell.isLst mExtend mo ma) := by
  refine liftM ty_list PySem.F.plainAttrs_list PySem.F.slot_list_extend PySem.F.type_list_extend mt_extend ho ha m (fun _ _ _ _ _ _ A hc hr hk => tp_lst A hc hr hk) ?_
  intro W st H l c c' a ds d xs Q A hc hr rs e h
  unfold mExtend at e
  split at e
  · rename_i ys d0
    split at e
    · rename_i zs e0
      split at e
      · rename_i hz
        cases e
        obtain ⟨vs, e1, r1⟩ := A.cell l _ a hc hr
        obtain ⟨x, hx, r2⟩ := reps1 rs
        obtain ⟨b, ws, rfl, r3, hb⟩ := r2.lstH A e0
        refine ⟨a, b, vs, ws, rfl, hx, e1, hb, by rw [r1.length, r3.length, ← szL_eq]; exact hz, wrL A hc (fun z => by cases z) hr (r1.append r3) .non h⟩
      · cases e
    · cases e
  · cases e
theorem liftMR {name : PySem.Str} {id : String} {r : V → List V → Hp → VK → Prop} {g : Sto → List D → List D → Option D} (slot : Slot "list" name id) (hty : typeOf (.builtin id) = pure (.type "method_descriptor")) (hm : MtR X id r)
    (ho : ME X T Wx o mo) (ha : MA X T Wx (e :: es) ma) (m : Mc X o name apos e es cpos)
    (h2 : ∀ (W : Wd) (st : Sto) (H : Hp) (ys ds : List D) (a : Addr) (vs : List V) (d : D) (xs : List V) (Q : VK), Abs T W st H → Reps T W st H ys vs → SqL X.K H a vs → Reps T W st H ds xs → g st ys ds = some d →
      (∀ W' H' v, Grow W st H W' st H' → Abs T W' st H' → Rep T W' st H' d v → Q v H') → r (.ref a) xs H Q) :
    ME X T Wx (.Call (.Attribute o name apos) (e :: es) [] cpos) (xMR g mo ma) := by
  refine PE.imp (pe_mG ty_list PySem.F.plainAttrs_list slot hty hm ho ha m.hb m.few m.line m.st m.pl) fun σ H Q ⟨W, st, σd, A, h⟩ => ?_
  refine step A h fun W1 st1 H1 d x a1 g1 r1 q1 => ?_
  split at q1
  · rename_i ys e1
    obtain ⟨a, vs, rfl, r2, hq⟩ := r1.lstR (K := X.K) a1.abs e1
    refine ⟨⟨a, vs, rfl, hq⟩, ?_⟩
    refine step a1 q1 fun W2 st2 H2 ds xs a2 g2 r2 q2 => ?_
    split at q2
    · rename_i ys2 e2
      obtain ⟨dd, ed, q2⟩ := OutG.opt q2
      obtain ⟨a', vs2, ea, r3, hq2⟩ := (r1.mono a1.abs g2).lstR (K := X.K) a2.abs e2
      cases ea
      exact h2 W2 st2 H2 ys2 ds a vs2 dd xs Q a2.abs r3 hq2 r2 ed q2
    · exact False.elim q2
  · exact False.elim q1
def rCntD (K : PySem.W.Frag) : V → List V → Hp → VK → Prop := fun x xs H Q => ∃ (a : Addr) (vs : List V) (y : V) (d : PyData) (ds : List PyData), x = V.ref a ∧ xs = [y] ∧ SqL K H a vs ∧ DpAll K H vs ds ∧ Dp K H y d ∧
  SeqAt.shaped (.list ds) = true ∧ SeqAt.shaped d = true ∧ Q (.int ((ds.countP fun z => PyData.eqv z d) : Nat)) H
theorem mt_countD (hu : X.A.units + 66 < cLine) : MtR X "list.count" (rCntD X.K) := by
  intro pins s σ H x xs v us Q I rx rxs h
  obtain ⟨a, vs, y, d, ds, rfl, rfl, hs, ha, hy, sl, sd, q⟩ := h
  cases rx
  cases rxs with
  | cons ry rt =>
    rename_i uy ut
    cases rt
    obtain ⟨bs, r1⟩ := Dp.reads I d y uy hy ry
    have hxs : PyData.canLayAll0 ds = true := SeqAt.canLay_of_shaped sl
    have hroom : X.A.units + 1 + min (PyData.depthAll ds) d.depth < cLine := room_sh sd hu
    obtain ⟨its, rv, ⟨⟨cls, dd, data, sls⟩, n, ho, hc, hdn, hdt⟩, hlen⟩ := I.list hs
    simp only at hc hdt
    subst hc hdt
    obtain ⟨as, h4⟩ := Dp.readsAll I ds _ its ha rv
    have hmap : its.map (SeqAt.readOf s.heap) = ds := SeqAt.readsAll_map ds its as hxs h4
    refine call_meets PySem.F.slot_list_count ⟨_, ho, rfl⟩ PySem.F.entry_list_count (PySem.F.args_list_count_2 _ _)
      (SeqAt.list_countAt a its.toArray n dd sls uy (fun u => PyData.eqv (SeqAt.readOf s.heap u) d)) ⟨ho, SeqAt.items_eqAt (vs := its.toArray) (show ReadsAll s.heap its.toArray.toList ds as from h4) r1 hxs (SeqAt.canLay_of_shaped sd) hroom, ?_⟩
    refine ⟨.int _, H, I.tok _, ⟨s.toks, ?_⟩, q⟩
    have : its.toArray.toList.countP (fun u => PyData.eqv (SeqAt.readOf s.heap u) d) = ds.countP fun z => PyData.eqv z d := by
      rw [← hmap, List.countP_map]; rfl
    rw [this]
theorem toPyL_map : ∀ xs : List D, toPyL xs = xs.map toPy
  | [] => rfl
  | x :: xs => by simp [toPyL, toPyL_map xs]
theorem countP_eqv {d : D} {n : Nat} (hd : d.flat n = true) : ∀ {xs : List D} {m : Nat}, flatL m xs = true → (toPyL xs).countP (fun z => PyData.eqv z (toPy d)) = xs.countP fun y => y.eqv d
  | [], _, _ => rfl
  | x :: xs, m, h => by
    have h' : x.flat m = true ∧ flatL m xs = true := by simpa [flatL] using h
    simp only [toPyL, List.countP_cons, eqv_of x d m n h'.1 hd, countP_eqv hd h'.2]
theorem me_count (hu : X.A.units + 66 < cLine) (ho : ME X T Wx o mo) (ha : MA X T Wx (e :: es) ma) (m : Mc X o "count" apos e es cpos) : ME X T Wx (.Call (.Attribute o "count" apos) (e :: es) [] cpos) (xMR mCount mo ma) := by
  refine liftMR PySem.F.slot_list_count PySem.F.type_list_count (mt_countD hu) ho ha m ?_
  intro W st H ys ds a vs d xs Q A r1 hq r2 e h
  unfold mCount at e
  split at e
  · rename_i d0
    split at e
    · rename_i hf
      simp only [Bool.and_eq_true] at hf
      cases e
      obtain ⟨x, hx, r3⟩ := reps1 r2
      refine ⟨a, vs, x, toPy d0, toPyL ys, rfl, hx, hq, r1.dp 50 hf.2, r3.dp 50 hf.1, shaped_of (n := 51) (d := .lst ys) (by simpa [D.flat] using hf.2) (by decide), shaped_of hf.1 (by decide), ?_⟩
      rw [countP_eqv hf.1 hf.2]
      exact stay A h (.int _)
    · cases e
  · cases e
theorem idxE_spec {d : D} : ∀ {xs : List D} {i : Nat}, idxE d xs = some i → (∃ x, xs[i]? = some x ∧ x.eqv d = true) ∧ ∀ (k : Nat) (x : D), k < i → xs[k]? = some x → x.eqv d = false
  | [], _, e => by cases e
  | x :: xs, i, e => by
    unfold idxE at e
    split at e
    · rename_i hx
      cases e
      exact ⟨⟨x, rfl, hx⟩, fun k y hk => absurd hk (Nat.not_lt_zero _)⟩
    · rename_i hx
      simp only [Option.map_eq_some_iff] at e
      obtain ⟨j, e1, rfl⟩ := e
      obtain ⟨⟨y, e2, e3⟩, e4⟩ := idxE_spec e1
      refine ⟨⟨y, by simpa using e2, e3⟩, fun k z hk hz => ?_⟩
      cases k with
      | zero => simp at hz; subst hz; simpa using hx
      | succ k => exact e4 k z (by omega) (by simpa using hz)
theorem me_index (hu : X.A.units + 66 < cLine) (ho : ME X T Wx o mo) (ha : MA X T Wx (e :: es) ma) (m : Mc X o "index" apos e es cpos) : ME X T Wx (.Call (.Attribute o "index" apos) (e :: es) [] cpos) (xMR mIndex mo ma) := by
  refine liftMR PySem.F.slot_list_index PySem.F.type_list_index (mt_indexD (by omega)) ho ha m ?_
  intro W st H ys ds a vs d xs Q A r1 hq r2 e h
  unfold mIndex at e
  split at e
  · rename_i d0
    split at e
    · rename_i hf
      simp only [Bool.and_eq_true] at hf
      simp only [Option.map_eq_some_iff] at e
      obtain ⟨j, e1, rfl⟩ := e
      obtain ⟨x, hx, r3⟩ := reps1 r2
      obtain ⟨⟨y, e2, e3⟩, e4⟩ := idxE_spec e1
      have fl : ∀ {k : Nat} {z : D}, ys[k]? = some z → z.flat 50 = true := fun {k z} hz => by
        have : ∀ {l : List D}, flatL 50 l = true → z ∈ l → z.flat 50 = true := by
          intro l
          induction l with
          | nil => intro _ hm; cases hm
          | cons w l ih =>
            intro hl hm
            simp only [flatL, Bool.and_eq_true] at hl
            rcases List.mem_cons.mp hm with rfl | hm
            · exact hl.1
            · exact ih hl.2 hm
        exact this hf.2 (List.mem_of_getElem? hz)
      refine ⟨a, x, toPy d0, toPyL ys, j, toPy y, rfl, hx, .lst hq (r1.dp 50 hf.2), r3.dp 50 hf.1, shaped_of (n := 51) (d := .lst ys) (by simpa [D.flat] using hf.2) (by decide), shaped_of hf.1 (by decide), by rw [toPyL_map, List.getElem?_map, e2]; rfl, by rw [eqv_of y d0 50 50 (fl e2) hf.1]; exact e3, fun k z hk hz => ?_, stay A h (.int _)⟩
      rw [toPyL_map, List.getElem?_map] at hz
      simp only [Option.map_eq_some_iff] at hz
      obtain ⟨w, hw, rfl⟩ := hz
      rw [eqv_of w d0 50 50 (fl hw) hf.1]
      exact e4 k w hk hw
    · cases e
  · cases e
end
end Mi
end
section
set_option Elab.async false
set_option linter.all false
set_option maxRecDepth 100000
set_option autoImplicit false
namespace Mi
open PySem L2
theorem upd_upd {H : Hp} {a : Addr} {o o' : HO} : upd (upd H a o) a o' = upd H a o' := by
  funext b
  by_cases h : b = a
  · subst h; rw [upd_same, upd_same]
  · rw [upd_ne h, upd_ne h, upd_ne h]
section
variable {X : Cx} {T : Tb} {Wx : WX} {o e f : Expr} {es : List Expr} {mo mi : XE} {ma : XA} {apos cpos : Pos}
def rSetdR : V → List V → Hp → VK → Prop := fun x xs H Q => ∃ a k v, x = .ref a ∧ xs = [kV k, v] ∧
  ((∃ kvs, H a = some (.dK kvs) ∧ kvs.length < sizeLine ∧ (∀ v0, valV kvs k = some v0 → Q v0 H) ∧ (valV kvs k = none → Q v (upd H a (.dK (L2.putK kvs k v))))) ∨ (H a = some (.dT []) ∧ Q v (upd H a (.dK [(k, v)]))))
theorem mt_setdR : MtR X "dict.setdefault" rSetdR := by
  intro pins s σ H x xs v us Q I rx rxs h
  obtain ⟨a, k, z, rfl, rfl, h⟩ := h
  cases rx
  obtain ⟨u, u2, rfl, ru, ru2⟩ := vals2 rxs
  rcases h with ⟨kvs, e, hl, q1, q2⟩ | ⟨e, q⟩
  · exact d_setd I e ru ru2 hl (fun v0 hv w' s' I' rw' => ⟨v0, H, I', rw', q1 v0 hv⟩) fun hn w' s' I' rw' => ⟨z, _, I', rw', q2 hn⟩
  · refine d_setd (Inv.toK I e) upd_same ru ru2 (by rw [sizeLine_eq]; decide) (fun v0 hv => ?_) fun hn w' s' I' rw' => ⟨z, _, I', rw', ?_⟩
    · simp [valV] at hv
    · rw [upd_upd]; exact q
theorem wrK {W : Wd} {st : Sto} {H : Hp} {l : Nat} {c : Cell} {a : Addr} {kvs : List (D × D)} {d : D} {vs : List (Key × V)} {v : V} {Q : VK} (A : Abs T W st H) (hc : st[l]? = some c) (hn : c ≠ .dead) (hr : W.rho[l]? = some a) (rs : RepK T W st H kvs vs) (rv : Rep T W st H d v)
    (h : ∀ H' v, Grow W st H W (st.set l (.dct kvs)) H' → Abs T W (st.set l (.dct kvs)) H' → Rep T W (st.set l (.dct kvs)) H' d v → Q v H') : Q v (upd H a (.dK vs)) := by
  have g : Grow W st H W (st.set l (.dct kvs)) (upd H a (.dK vs)) := Grow.wr A hr hc hn (fun _ z => by cases z)
  exact h _ v g (A.wr hr hc hn (fun _ z => by cases z) (.inl ⟨vs, upd_same, rs.to (g.to A)⟩)) (rv.mono A g)
theorem set_same {st : Sto} {l : Nat} {c : Cell} (hc : st[l]? = some c) : st.set l c = st := by
  apply List.ext_getElem?
  intro i
  by_cases h : l = i
  · subst h; rw [List.getElem?_set_self (List.getElem?_eq_some_iff.mp hc).1, hc]
  · rw [List.getElem?_set_ne h]
theorem me_setd (ho : ME X T Wx o mo) (ha : MA X T Wx (e :: es) ma) (m : Mc X o "setdefault" apos e es cpos) : ME X T Wx (.Call (.Attribute o "setdefault" apos) (e :: es) [] cpos) (xM Cell.isDct mSetd mo ma) := by
  refine liftM ty_dict PySem.F.plainAttrs_dict PySem.F.slot_dict_setdefault PySem.F.type_dict_setdefault mt_setdR ho ha m (fun _ _ _ _ _ _ A hc hr hk => tp_dct A hc hr hk) ?_
  intro W st H l c c' a ds d xs Q A hc hr rs e h
  unfold mSetd at e
  split at e
  · rename_i kvs k v0
    split at e
    · rename_i hz
      simp only [Bool.and_eq_true, decide_eq_true_eq] at hz
      obtain ⟨y, z0, rfl, ry, rz⟩ := reps2 rs
      obtain ⟨q, e1⟩ := keyOf_of hz.1.1
      have ey := ry.key e1
      subst ey
      refine ⟨a, q, z0, rfl, rfl, ?_⟩
      rcases A.cell l _ a hc hr with ⟨vs, e2, r2⟩ | ⟨vs, e2, r2⟩
      · refine .inl ⟨vs, e2, by rw [r2.len, ← szL_eq]; exact hz.2, fun w hw => ?_, fun hw => ?_⟩
        · rcases r2.get e1 with ⟨z1, z2⟩ | ⟨d', v', z1, z2, z3⟩
          · rw [hw] at z2; cases z2
          · rw [hw] at z2; cases z2
            rw [z1] at e; cases e
            rw [set_same hc] at h
            exact h H w (Grow.refl _ _ _) A z3
        · rcases r2.get e1 with ⟨z1, z2⟩ | ⟨d', v', z1, z2, z3⟩
          · rw [z1] at e; cases e
            exact wrK A hc (fun z => by cases z) hr (r2.put e1 rz) rz h
          · rw [hw] at z2; cases z2
      · cases r2 with
        | nil =>
          simp only [getK] at e
          cases e
          refine .inr ⟨e2, ?_⟩
          exact wrK A hc (fun z => by cases z) hr (.cons e1 rz .nil) rz h
        | @cons k0 d0 q0 v0 ds0 vs0 hj _ _ =>
          exfalso
          have z : k0.isKey0 = true := by
            have := hz.1.2
            simp at this; exact this.1
          cases k0 <;> simp [D.isKey0] at z <;> simp [Mi.keyT] at hj
    · cases e
  · cases e
def psR : TSet := fun o i v H Q => rSetL o i v H Q ∨ (∃ a H', o = .ref a ∧ DPut H a i v H' ∧ Q H') ∨ (∃ a k, o = .ref a ∧ H a = some (.dT []) ∧ i = kV k ∧ Q (upd H a (.dK [(k, v)]))) ∨
  ∃ a k b, o = .ref a ∧ H a = some (.dK []) ∧ i = .ref b ∧ H b = some (.tup (k.map kV)) ∧ Q (upd H a (.dT [(k, v)]))
theorem set_R (hu : X.A.units + 1 < cLine) : PSet X psR := by
  intro pins s σ H o i v ov iv u Q I ro ri rv h
  rcases h with h | ⟨a, H', rfl, g, q⟩ | ⟨a, k, rfl, e, rfl, q⟩ | ⟨a, k, b, rfl, e, rfl, eb, q⟩
  · exact set_list pins s σ H o i v ov iv u Q I ro ri rv h
  · cases ro
    exact d_setItem hu I g ri rv fun s' I' => ⟨H', I', q⟩
  · cases ro
    refine d_setItem hu (Inv.toK I e) (DPut.k upd_same (by rw [sizeLine_eq]; decide)) ri rv fun s' I' => ⟨_, I', ?_⟩
    rw [upd_upd]; exact q
  · cases ro
    have hb : b ≠ a := fun z => by rw [z, e] at eb; cases eb
    refine d_setItem hu (Inv.toT I e) (DPut.t upd_same (by rw [upd_ne hb]; exact eb) (by rw [sizeLine_eq]; decide)) ri rv fun s' I' => ⟨_, I', ?_⟩
    rw [upd_upd]; exact q
theorem wrT {W : Wd} {st : Sto} {H : Hp} {l : Nat} {c : Cell} {a : Addr} {kvs : List (D × D)} {vs : List (List Key × V)} (A : Abs T W st H) (hc : st[l]? = some c) (hn : c ≠ .dead) (hr : W.rho[l]? = some a) (rs : RepT T W st H kvs vs) :
    Grow W st H W (st.set l (.dct kvs)) (upd H a (.dT vs)) ∧ Abs T W (st.set l (.dct kvs)) (upd H a (.dT vs)) := by
  have g : Grow W st H W (st.set l (.dct kvs)) (upd H a (.dT vs)) := Grow.wr A hr hc hn (fun _ z => by cases z)
  exact ⟨g, A.wr hr hc hn (fun _ z => by cases z) (.inr ⟨vs, upd_same, rs.to (g.to A)⟩)⟩
theorem wrK' {W : Wd} {st : Sto} {H : Hp} {l : Nat} {c : Cell} {a : Addr} {kvs : List (D × D)} {vs : List (Key × V)} (A : Abs T W st H) (hc : st[l]? = some c) (hn : c ≠ .dead) (hr : W.rho[l]? = some a) (rs : RepK T W st H kvs vs) :
    Grow W st H W (st.set l (.dct kvs)) (upd H a (.dK vs)) ∧ Abs T W (st.set l (.dct kvs)) (upd H a (.dK vs)) := by
  have g : Grow W st H W (st.set l (.dct kvs)) (upd H a (.dK vs)) := Grow.wr A hr hc hn (fun _ z => by cases z)
  exact ⟨g, A.wr hr hc hn (fun _ z => by cases z) (.inl ⟨vs, upd_same, rs.to (g.to A)⟩)⟩
theorem put_sound {W : Wd} {st st' : Sto} {H : Hp} {od id vd : D} {x y z : V} {Q : Hp → Prop} (A : Abs T W st H) (ro : Rep T W st H od x) (ri : Rep T W st H id y) (rv : Rep T W st H vd z) (e : stPut st od id vd = some st')
    (h : ∀ H', Grow W st H W st' H' → Abs T W st' H' → Q H') : psR x y z H Q := by
  unfold stPut at e
  split at e
  · rename_i l
    cases ro with
    | loc hl =>
      rename_i a
      split at e
      · rename_i xs hc
        split at e
        · rename_i k
          cases ri
          simp only [Option.map_eq_some_iff] at e
          obtain ⟨j, e1, rfl⟩ := e
          obtain ⟨vs, e2, r2⟩ := A.cell l _ a hc hl
          have g : Grow W st H W (st.set l (.lst (xs.set j vd))) (upd H a (.lst (vs.set j z))) := Grow.wr A hl hc (fun z => by cases z) (fun _ z => by cases z)
          exact .inl ⟨a, vs, k, j, rfl, rfl, e2, by rw [r2.length, ← ixN_eq]; exact e1, h _ g (A.wr hl hc (fun z => by cases z) (fun _ z => by cases z) ⟨_, upd_same, (r2.set rv j).mono A g⟩)⟩
        · cases e
      · rename_i kvs hc
        split at e
        · rename_i hz
          simp only [Bool.and_eq_true, decide_eq_true_eq] at hz
          cases e
          have nd : Cell.dct kvs ≠ .dead := fun z => by cases z
          obtain ⟨hf, hlen⟩ := hz
          unfold keysFit at hf
          simp only [Bool.or_eq_true, Bool.and_eq_true] at hf
          rcases hf with ⟨hk, hall⟩ | ⟨hk, hall⟩
          · obtain ⟨q, e1⟩ := keyOf_of hk
            have ey := ri.key e1
            subst ey
            rcases A.cell l _ a hc hl with ⟨vs, e2, r2⟩ | ⟨vs, e2, r2⟩
            · obtain ⟨g, A'⟩ := wrK' A hc nd hl (r2.put e1 rv)
              exact .inr (.inl ⟨a, _, rfl, DPut.k e2 (by rw [r2.len, ← szL_eq]; exact hlen), h _ g A'⟩)
            · cases r2 with
              | nil =>
                obtain ⟨g, A'⟩ := wrK' (kvs := putK [] id vd) A hc nd hl (.cons e1 rv .nil)
                exact .inr (.inr (.inl ⟨a, q, rfl, e2, rfl, h _ g A'⟩))
              | @cons k0 d0 q0 v0 ds0 vs0 hj _ _ =>
                exfalso
                have z : k0.isKey0 = true := by simp at hall; exact hall.1
                cases k0 <;> simp [D.isKey0] at z <;> simp [Mi.keyT] at hj
          · obtain ⟨q, e1⟩ := keyT_of hk
            obtain ⟨b, ey, eb⟩ := ri.keyT e1
            subst ey
            rcases A.cell l _ a hc hl with ⟨vs, e2, r2⟩ | ⟨vs, e2, r2⟩
            · cases r2 with
              | nil =>
                obtain ⟨g, A'⟩ := wrT (kvs := putK [] id vd) A hc nd hl (.cons e1 rv .nil)
                exact .inr (.inr (.inr ⟨a, q, b, rfl, e2, rfl, eb, h _ g A'⟩))
              | @cons k0 d0 q0 v0 ds0 vs0 hj _ _ =>
                exfalso
                have z : k0.isKey1 = true := by simp at hall; exact hall.1
                cases k0 <;> simp [D.isKey1] at z <;> simp [keyOf] at hj
            · obtain ⟨g, A'⟩ := wrT A hc nd hl (r2.put e1 rv)
              exact .inr (.inl ⟨a, _, rfl, DPut.t e2 eb (by rw [r2.len, ← szL_eq]; exact hlen), h _ g A'⟩)
        · cases e
      · cases e
  · cases e
end
end Mi
end
section
set_option Elab.async false
set_option linter.all false
set_option maxRecDepth 100000
set_option autoImplicit false
namespace Mi
open PySem L2
section
variable (T : Tb)
/-- a store: own are the slots that it may write -/
def OutGt (own : List Nat) (σ0 : L2.St) (Q : L2.St → Hp → Prop) (W : Wd) (st : Sto) (H : Hp) (o : Option (Env × Sto)) : Prop := match o with
  | some p => ∀ W' H' σ', Grow W st H W' p.2 H' → At T σ' W' p.2 H' p.1 → L2.wipe σ' own = L2.wipe σ0 own → Q σ' H'
  | none => False
def lGt (own : List Nat) (m : XG) : TG := fun v σ H Q => ∃ W st σd d, At T σ W st H σd ∧ Rep T W st H d v ∧ OutGt T own σ Q W st H (m d σd st)
def lGts (own : List Nat) (m : XGs) : TGs := fun vs σ H Q => ∃ W st σd ds, At T σ W st H σd ∧ Reps T W st H ds vs ∧ OutGt T own σ Q W st H (m ds σd st)
end
def MG (X : Cx) (T : Tb) (own : List Nat) (tg : Expr) (g : XG) : Prop := PG X tg (lGt T own g)
def MGs (X : Cx) (T : Tb) (own : List Nat) (tgs : List Expr) (g : XGs) : Prop := PGs X tgs (lGts T own g)
theorem PG.imp {X : Cx} {e : Expr} {t t' : TG} (h : PG X e t) (i : ∀ v σ H Q, t' v σ H Q → t v σ H Q) : PG X e t' := ⟨fun pins s σ H v u Q I r q => h.run pins s σ H v u Q I r (i _ _ _ _ q)⟩
theorem PGs.imp {X : Cx} {e : List Expr} {t t' : TGs} (h : PGs X e t) (i : ∀ v σ H Q, t' v σ H Q → t v σ H Q) : PGs X e t' := ⟨fun pins s σ H v u Q I r q => h.run pins s σ H v u Q I r (i _ _ _ _ q)⟩
section
variable {X : Cx} {T : Tb} {Wx : WX}
variable {own : List Nat}
theorem OutGt.shift {σ0 : L2.St} {Q : L2.St → Hp → Prop} {W W' : Wd} {st st' : Sto} {H H' : Hp} {o : Option (Env × Sto)} (g : Grow W st H W' st' H') (h : OutGt T own σ0 Q W st H o) : OutGt T own σ0 Q W' st' H' o := by
  cases o with
  | none => exact h
  | some p => exact fun W2 H2 σ2 g2 a2 w => h W2 H2 σ2 (g.trans g2) a2 w
theorem OutGt.from {σ0 σ1 : L2.St} {Q : L2.St → Hp → Prop} {W : Wd} {st : Sto} {H : Hp} {o : Option (Env × Sto)} (e : L2.wipe σ1 own = L2.wipe σ0 own) (h : OutGt T own σ0 Q W st H o) : OutGt T own σ1 Q W st H o := by
  cases o with
  | none => exact h
  | some p => exact fun W2 H2 σ2 g2 a2 w => h W2 H2 σ2 g2 a2 (w.trans e)
theorem OutGt.now {σ0 : L2.St} {Q : L2.St → Hp → Prop} {W : Wd} {st : Sto} {H : Hp} {σ : L2.St} {σd : Env} (h : OutGt T own σ0 Q W st H (some (σd, st))) (a : At T σ W st H σd) (w : L2.wipe σ own = L2.wipe σ0 own) : Q σ H := h W H σ (Grow.refl _ _ _) a w
theorem wipe_set {σ : L2.St} {i : Nat} {v : Option V} : ∀ {own : List Nat}, i ∈ own → L2.wipe (σ.set i v) own = L2.wipe σ own
  | [], h => by cases h
  | j :: own, h => by
    have out : ∀ (own : List Nat), i ∉ own → L2.wipe (σ.set i v) own = (L2.wipe σ own).set i v := by
      intro own
      induction own with
      | nil => intro _; rfl
      | cons k own ih =>
        intro hk
        have h1 : i ≠ k := fun e => hk (e ▸ List.mem_cons_self)
        have h2 := ih fun q => hk (List.mem_cons_of_mem _ q)
        show (L2.wipe (σ.set i v) own).set k none = ((L2.wipe σ own).set k none).set i v
        rw [h2, List.set_comm _ _ h1]
    show (L2.wipe (σ.set i v) own).set j none = (L2.wipe σ own).set j none
    by_cases hi : i ∈ own
    · rw [wipe_set hi]
    · have hj : i = j := (List.mem_cons.mp h).resolve_right hi
      subst hj
      rw [out own hi, List.set_set]
theorem mg_var {i : Nat} {x : PySem.Str} {pos : Pos} (hN : X.N.Nodup) (hi : X.N[i]? = some x := by rfl) (ho : i ∈ own := by decide) (hpn : T.free i := by rfl) (hx : Loc X.env.scope x := by first | exact Or.inl rfl | exact Or.inr rfl) (hf : X.fn x = true ∨ X.env.scope.names.lookup x = some .local := by first | exact .inl rfl | exact .inr rfl) : MG X T own (.Name x pos) (gVar i) :=
  PG.imp (pg_name hN hi hx hf) fun v σ H Q ⟨W, st, σd, d, a, r, h⟩ => OutGt.now h ⟨a.abs, a.slots.set r hpn⟩ (wipe_set ho)
theorem mgs_nil : MGs X T own [] gsNil := PGs.imp pgs_nil fun vs σ H Q ⟨W, st, σd, ds, a, r, h⟩ => by
  cases r with
  | nil => exact ⟨rfl, OutGt.now h a rfl⟩
  | cons _ _ => exact False.elim h
theorem mgs_cons {e : Expr} {es : List Expr} {g : XG} {gr : XGs} (h1 : MG X T own e g) (h2 : MGs X T own es gr) (hc : (assignEach (e :: es) X.env).map (·.2) = assign e X.env :: (assignEach es X.env).map (·.2) := by rfl) : MGs X T own (e :: es) (gsCons g gr) :=
  PGs.imp (pgs_cons h1 h2 hc) fun vs σ H Q ⟨W, st, σd, ds, a, r, h⟩ => by
    cases r with
    | nil => exact False.elim h
    | @cons d v ds vs hv rv =>
      refine ⟨_, _, rfl, W, st, σd, _, a, hv, ?_⟩
      simp only [gsCons] at h
      cases q : g d σd st with
      | none => rw [q] at h; exact False.elim h
      | some p =>
        rw [q] at h
        exact fun W2 H2 σ2 g2 a2 w => ⟨W2, p.2, p.1, ds, a2, rv.mono a.abs g2, OutGt.from w (OutGt.shift g2 h)⟩
theorem PG.or {e : Expr} {t t' : TG} (h : PG X e t) (h' : PG X e t') : PG X e (fun v σ H Q => t v σ H Q ∨ t' v σ H Q) :=
  ⟨fun pins s σ H v u Q I r q => q.elim (fun q => h.run pins s σ H v u Q I r q) fun q => h'.run pins s σ H v u Q I r q⟩
theorem mg_tup {es : List Expr} {k n : Nat} {gr : XGs} {pos : Pos} (hc : X.calm = true) (h : MGs X T own es gr) (hn : (assignEach es X.env).length = n := by rfl) (hst : (assignEach es X.env).findIdx? (·.1) = none := by rfl) : MG X T own (.Tuple es k pos) (Mi.gTup n gr) :=
  PG.imp (PG.or (pg_tup hc h hn hst) (pg_lst hc h hn hst)) fun v σ H Q ⟨W, st, σd, d, a, r, h⟩ => by
    simp only [Mi.gTup] at h
    split at h
    · rename_i xs e
      split at h
      · rename_i hl
        obtain ⟨b, vs, rfl, rr, hq⟩ := r.seq (K := X.K) a.abs e
        rcases hq with hq | hq
        · exact .inr ⟨b, vs, rfl, hq, by rw [rr.length]; exact hl, W, st, σd, xs, a, rr, h⟩
        · exact .inl ⟨b, vs, rfl, hq, by rw [rr.length]; exact hl, W, st, σd, xs, a, rr, h⟩
      · exact False.elim h
    · exact False.elim h
theorem mg_sub {o i : Expr} {mo mi : XE} {pos : Pos} (hu : X.A.units + 1 < cLine) (ho : ME X T Wx o mo) (hi : ME X T Wx i mi)
    (ha : ∀ v, assign (.Subscript o i pos) X.env v = (do
      let ov ← holding [v] (eval o X.env)
      let iv ← holding [v, ov] (eval i X.env)
      standAt pos
      holding [v, ov, iv] (setItem ov iv v)
      release [v, ov, iv] []) := by intro _; rfl) : MG X T own (.Subscript o i pos) (Mi.gSub mo mi) :=
  PG.imp (pg_sub ho hi (set_R hu) ha) fun v σ H Q ⟨W, st, σd, d, a, r, h⟩ => by
    refine ⟨W, st, σd, a, ?_⟩
    simp only [Mi.gSub] at h
    cases e1 : mo σd st with
    | ok od s1 =>
      rw [e1] at h
      simp only [okOf, Option.bind_some] at h
      refine fun W1 H1 x g1 A1 r1 => ⟨W1, s1, σd, a.mono g1 A1, ?_⟩
      cases e2 : mi σd s1 with
      | ok id s2 =>
        rw [e2] at h
        simp only [okOf, Option.bind_some] at h
        refine fun W2 H2 y g2 A2 r2 => ?_
        cases e3 : stPut s2 od id d with
        | none => rw [e3] at h; exact False.elim h
        | some s3 =>
          rw [e3] at h
          refine put_sound A2 (r1.mono A1 g2) r2 ((r.mono a.abs g1).mono A1 g2) e3 fun H3 g3 A3 => ?_
          exact h W2 H3 σ ((g1.trans g2).trans g3) (((a.mono g1 A1).mono g2 A2).mono g3 A3) rfl
      | exc x s2 => rw [e2] at h; exact False.elim h
      | bad => rw [e2] at h; exact False.elim h
    | exc x s1 => rw [e1] at h; exact False.elim h
    | bad => rw [e1] at h; exact False.elim h
variable {s : Stmt} {rest p q : List Stmt} {e c : Expr} {m mb : XE} {t : XT} {a b : XS} {pos : Pos}
theorem mss_nil : MSs X T Wx [] sNext := PSs.imp pss_nil fun E σ H ⟨W, st, σd, A, h⟩ => h W H σ (Grow.refl _ _ _) A
theorem OutSt.seq {E : Ends} {W : Wd} {st : Sto} {H : Hp} {o : OutS} {k : Env → Sto → OutS} (h : OutSt T Wx E W st H (match o with
  | .nx σ1 st1 => k σ1 st1
  | o => o)) : OutSt T Wx { E with nx := fun σ' H' => ∃ W1 st1 σ1, At T σ' W1 st1 H' σ1 ∧ OutSt T Wx E W1 st1 H' (k σ1 st1) } W st H o := by
  cases o with
  | nx σ1 st1 => exact fun W' H' σ' g a => ⟨W', st1, σ1, a, OutSt.shift g h⟩
  | rt d s => exact h
  | bk σ s => exact h
  | ct σ s => exact h
  | exc x σ s => exact h
  | bad => exact h
theorem mss_cons (h1 : MS X T Wx s a) (h2 : MSs X T Wx rest b) : MSs X T Wx (s :: rest) (sSeq a b) :=
  PSs.imp (pss_cons h1 h2) fun E σ H ⟨W, st, σd, A, h⟩ => ⟨W, st, σd, A, OutSt.seq h⟩
theorem mss_one (h : MS X T Wx s a) : MSs X T Wx [s] a := pss_one h
theorem ms_expr (he : ME X T Wx e m) (hs : swapsWith e none pos.line X.env = pure false := by rfl) : MS X T Wx (.Expr e pos) (sDrop m) :=
  PS.imp (ps_expr he hs) fun E σ H ⟨W, st, σd, A, h⟩ => by
    refine stepS A h (fun e s q => ?_) (fun q => ?_) fun W1 st1 H1 x v ex A1 g1 r1 h1 => ?_
    · simp only [sDrop, q]
    · simp only [sDrop, q]
    · simp only [sDrop, ex] at h1
      exact h1 W1 H1 σ (Grow.refl _ _ _) A1
theorem ms_ret (he : ME X T Wx e m) : MS X T Wx (.Return (some e) pos) (sRet m) :=
  PS.imp (ps_ret he) fun E σ H ⟨W, st, σd, A, h⟩ => by
    refine stepS A h (fun e s q => ?_) (fun q => ?_) fun W1 st1 H1 x v ex A1 g1 r1 h1 => ?_
    · simp only [sRet, q]
    · simp only [sRet, q]
    · simp only [sRet, ex] at h1
      exact h1 W1 H1 v (Grow.refl _ _ _) A1.abs r1
theorem ms_if (hc : MT X T Wx c t) (ha : MSs X T Wx p a) (hb : MSs X T Wx q b) : MS X T Wx (.If c p q pos) (sIf t a b) :=
  PS.imp (ps_if hc ha hb) fun E σ H ⟨W, st, σd, A, h⟩ => by
    refine stepS A h (fun e s q => ?_) (fun q => ?_) fun W1 st1 H1 x v ex A1 g1 r1 h1 => ?_
    · simp only [sIf, q]
    · simp only [sIf, q]
    · cases r1
      simp only [sIf, ex] at h1
      cases x with
      | true => exact iteT ⟨W1, st1, σd, A1, by simpa using h1⟩
      | false => exact iteF ⟨W1, st1, σd, A1, by simpa using h1⟩
theorem asg_imp {E : Ends} {σ : L2.St} {H : Hp} {g : XG} (h : lS T Wx (sAsg m g) E σ H) : tAsg (lE T Wx m) (lGt T own g) E σ H := by
  obtain ⟨W, st, σd, A, h⟩ := h
  refine stepS A h (fun e s q => ?_) (fun q => ?_) fun W1 st1 H1 x v ex A1 g1 r1 h1 => ?_
  · simp only [sAsg, q]
  · simp only [sAsg, q]
  · simp only [sAsg, ex] at h1
    refine ⟨W1, st1, σd, x, A1, r1, ?_⟩
    cases e : g x σd st1 with
    | none => rw [e] at h1; exact h1
    | some p => rw [e] at h1; exact fun W2 H2 σ2 g2 a2 _ => h1 W2 H2 σ2 g2 a2
theorem ms_asg {tg : Expr} {g : XG} (he : ME X T Wx e m) (hg : MG X T own tg g) (hs : swapsWithSole [tg] e pos.line X.env = pure false := by rfl) (hw : swappedStores [tg] e X.env = pure none := by rfl)
    (h1 : (assignEach [tg] X.env).map (·.2) = [assign tg X.env] := by rfl) : MS X T Wx (.Assign [tg] e pos) (sAsg m g) :=
  PS.imp (ps_asg he hg hs hw h1) fun E σ H h => asg_imp h
theorem ms_set {i : Nat} {x : PySem.Str} {pos' : Pos} (hN : X.N.Nodup) (he : ME X T Wx e m) (hi : X.N[i]? = some x := by rfl) (hpn : T.free i := by rfl) (hx : Loc X.env.scope x := by first | exact Or.inl rfl | exact Or.inr rfl) (hs : swapsWith e (some (.Name x pos')) pos.line X.env = pure false := by rfl)
    (hf : X.fn x = true ∨ X.env.scope.names.lookup x = some .local := by first | exact .inl rfl | exact .inr rfl) : MS X T Wx (.Assign [.Name x pos'] e pos) (sAsg m (gVar i)) :=
  PS.imp (ps_set hN hi hx he hs hf) fun E σ H h => by
    obtain ⟨W, st, σd, A, h⟩ := h
    refine stepS A h (fun e s q => ?_) (fun q => ?_) fun W1 st1 H1 x v ex A1 g1 r1 h1 => ?_
    · simp only [sAsg, q]
    · simp only [sAsg, q]
    · simp only [sAsg, ex, gVar] at h1
      exact h1 W1 H1 _ (Grow.refl _ _ _) ⟨A1.abs, A1.slots.set r1 hpn⟩
theorem ms_par {i j : Nat} {x y : PySem.Str} {ea eb : Expr} {ma : XA} {px py pt : Pos} {kt k2 pt2} (hc : X.calm = true) (hN : X.N.Nodup) (ha : MA X T Wx [ea, eb] ma) (hi : X.N[i]? = some x := by rfl) (hj : X.N[j]? = some y := by rfl) (hij : i ≠ j := by decide) (hp1 : T.free i := by rfl) (hp2 : T.free j := by rfl)
    (hx : X.env.scope.names.lookup x = some .local := by rfl) (hy : X.env.scope.names.lookup y = some .local := by rfl)
    (hw : swappedStores [.Tuple [.Name x px, .Name y py] kt pt] (.Tuple [ea, eb] k2 pt2) X.env = pure (some [x, y]) := by rfl)
    (hs : swapsWithSole [.Tuple [.Name x px, .Name y py] kt pt] (.Tuple [ea, eb] k2 pt2) pos.line X.env = pure false := by rfl) :
    MS X T Wx (.Assign [.Tuple [.Name x px, .Name y py] kt pt] (.Tuple [ea, eb] k2 pt2) pos) (sPar [i, j] ma) :=
  PS.imp (ps_par hc hN hi hj hij hx hy ha hw hs) fun E σ H ⟨W, st, σd, A, h⟩ => by
    refine stepS A h (fun e s q => ?_) (fun q => ?_) fun W1 st1 H1 x v ex A1 g1 r1 h1 => ?_
    · simp only [sPar, q]
    · simp only [sPar, q]
    · simp only [sPar, ex] at h1
      split at h1
      · rename_i hl
        match x, hl with
        | [d1, d2], _ =>
          obtain ⟨v1, v2, rfl, ra, rb⟩ := reps2 r1
          exact ⟨v1, v2, rfl, h1 W1 H1 _ (Grow.refl _ _ _) ⟨A1.abs, (A1.slots.set ra hp1).set rb hp2⟩⟩
      · exact False.elim h1
end
end Mi
end
section
set_option Elab.async false
set_option linter.all false
set_option maxRecDepth 100000
set_option autoImplicit false
namespace Mi
open PySem L2
/-- the iterator J walks `it` as it stands from (W, st, H) on -/
structure ItR (T : Tb) (W : Wd) (st : Sto) (H : Hp) (it : Mi.It) (J : L2.It) : Prop where
  go : ∀ (W' : Wd) (st' : Sto) (H' : Hp) (i : Nat) (d : D), To W st H W' st' H' → Abs T W' st' H' → it.okAt st' = true → it.ds[i]? = some d →
    J.go i H' ∧ ∀ x H2, J.yld i H' x H2 → ∃ W2, Grow W' st' H' W2 st' H2 ∧ Abs T W2 st' H2 ∧ Rep T W2 st' H2 d x
  stop : ∀ (W' : Wd) (st' : Sto) (H' : Hp), To W st H W' st' H' → Abs T W' st' H' → it.okAt st' = true → J.stop it.ds.length H'
def lI (T : Tb) (Wx : WX) (m : XI) : TI := fun σ H R => lG T (ItR T) Wx m σ H R
def MI (X : Cx) (T : Tb) (Wx : WX) (tg e : Expr) (m : XI) : Prop := PI X tg e (lI T Wx m)
theorem PI.imp {X : Cx} {tg e : Expr} {t t' : TI} (h : PI X tg e t) (i : ∀ σ H R, t' σ H R → t σ H R) : PI X tg e t' := ⟨fun pins s σ H R I q => h.run pins s σ H R I (i _ _ _ q)⟩
section
variable {T : Tb} {W W' : Wd} {st st' : Sto} {H H' : Hp}
theorem To.trans {W2 : Wd} {st2 : Sto} {H2 : Hp} (a : To W st H W' st' H') (b : To W' st' H' W2 st2 H2) : To W st H W2 st2 H2 :=
  ⟨fun x o h n t => by
    obtain ⟨h1, n1⟩ := a.keep x o h n t
    rcases h1 with h1 | ⟨hd, od, h1⟩
    · exact b.keep x o h1 n1 t
    · obtain ⟨h2, n2⟩ := b.keep x _ h1 n1 (fun _ z => by cases z)
      exact ⟨.inr ⟨hd, od, h2.no rfl⟩, n2⟩, fun x vs h => b.tup x vs (a.tup x vs h), fun x o u h => b.frz x o u (a.frz x o u h), fun i x h => b.rho i x (a.rho i x h), fun x φ h => b.ext x φ (a.ext x φ h)⟩
theorem ItR.shift {it : Mi.It} {J : L2.It} (g : To W st H W' st' H') (h : ItR T W st H it J) : ItR T W' st' H' it J :=
  ⟨fun W2 st2 H2 i d g2 => h.go W2 st2 H2 i d (g.trans g2), fun W2 st2 H2 g2 => h.stop W2 st2 H2 (g.trans g2)⟩
/-- a list that stands there -/
theorem itR_list {K : PySem.W.Frag} {d : D} {v : V} {it : Mi.It} (A : Abs T W st H) (r : Rep T W st H d v) (e : itOf st d = some it) (hl : lstOf st d = some it.ds) : ∃ a, v = .ref a ∧ (∃ xs, SqL K H a xs) ∧ ItR T W st H it (Itl K a) := by
  have key : ∃ a, v = .ref a ∧ ∀ (W' : Wd) (st' : Sto) (H' : Hp), To W st H W' st' H' → Abs T W' st' H' → it.okAt st' = true → ∃ vs, H' a = some (.lst vs) ∧ Reps T W' st' H' it.ds vs := by
    cases d with
    | lst xs =>
      cases e
      cases r with
      | lst h r => exact ⟨_, rfl, fun W' st' H' g A' _ => ⟨_, (Fl.to g (fun _ z => by cases z) h).1, r.to g⟩⟩
    | loc l =>
      cases r with
      | loc h =>
        rename_i a
        refine ⟨a, rfl, fun W' st' H' g A' ok => ?_⟩
        simp only [itOf] at e
        split at e
        · cases e
          simp only [It.okAt] at ok
          split at ok
          · rename_i ys e2
            obtain ⟨vs, e3, r3⟩ := A'.cell l _ a e2 (g.rho _ _ h)
            have := (sameL_iff ys _).mp ok
            subst this
            exact ⟨vs, e3, r3⟩
          · cases ok
        · cases e
    | _ => cases hl
  obtain ⟨a, rfl, key⟩ := key
  refine ⟨a, rfl, ?_, fun W' st' H' i d g A' ok hd => ?_, fun W' st' H' g A' ok => ?_⟩
  · obtain ⟨b, vs, e1, r1, hq⟩ := r.lstR (K := K) A hl
    cases e1
    exact ⟨vs, hq⟩
  · obtain ⟨vs, e1, r1⟩ := key W' st' H' g A' ok
    obtain ⟨v, e2, r2⟩ := r1.get hd
    refine ⟨⟨vs, v, SqL.of e1, e2⟩, fun x H2 ⟨eh, hx⟩ => ⟨W', ?_⟩⟩
    subst eh
    have := hx vs (SqL.of e1)
    rw [e2] at this
    cases this
    exact ⟨Grow.refl _ _ _, A', r2⟩
  · obtain ⟨vs, e1, r1⟩ := key W' st' H' g A' ok
    exact ⟨vs, SqL.of e1, by rw [r1.length]; exact Nat.le_refl _⟩
theorem itR_tup {K : PySem.W.Frag} {xs : List D} {a : Addr} {vs : List V} (A : Abs T W st H) (h : H a = some (.tup vs)) (r : Reps T W st H xs vs) : ItR T W st H ⟨xs, none⟩ (Itt K a) := by
  refine ⟨fun W' st' H' i d g A' ok hd => ?_, fun W' st' H' g A' ok => ?_⟩
  · obtain ⟨v, e2, r2⟩ := (r.to g).get hd
    have e1 := g.tup a vs h
    refine ⟨⟨vs, v, SqT.of e1, e2⟩, fun x H2 ⟨eh, hx⟩ => ⟨W', ?_⟩⟩
    subst eh
    have := hx vs (SqT.of e1)
    rw [e2] at this
    cases this
    exact ⟨Grow.refl _ _ _, A', r2⟩
  · exact ⟨vs, SqT.of (g.tup a vs h), by rw [r.length]; exact Nat.le_refl _⟩
theorem itR_str {s : List Nat} : ItR T W st H ⟨s.map fun c => .str [c], none⟩ (Its (strOf s)) := by
  refine ⟨fun W' st' H' i d g A' ok hd => ?_, fun W' st' H' g A' ok => ?_⟩
  · simp only [List.getElem?_map, Option.map_eq_some_iff] at hd
    obtain ⟨c, hc, rfl⟩ := hd
    have hi := (List.getElem?_eq_some_iff.mp hc).1
    refine ⟨by show i < (strOf s).cps.size; simpa [strOf] using hi, fun x H2 ⟨eh, c', h1, h2⟩ => ⟨W', ?_⟩⟩
    subst eh h2
    have : c' = c := by
      have : s[i]? = some c' := by simpa [strOf] using h1
      rw [hc] at this; exact (Option.some.inj this).symm
    subst this
    exact ⟨Grow.refl _ _ _, A', .str [c']⟩
  · show (strOf s).cps.size ≤ _
    simp [strOf]
theorem itR_rng {lo : Int} {n : Nat} : ItR T W st H ⟨rng lo n, none⟩ (Itr lo n) := by
  refine ⟨fun W' st' H' i d g A' ok hd => ?_, fun W' st' H' g A' ok => ?_⟩
  · unfold rng at hd
    simp only [List.getElem?_map, Option.map_eq_some_iff] at hd
    obtain ⟨k, hk, rfl⟩ := hd
    obtain ⟨h1, h2⟩ := List.getElem?_eq_some_iff.mp hk
    have h1' : i < n := by simpa using h1
    have h2' : k = i := by simpa using h2.symm
    subst h2'
    refine ⟨h1', fun x H2 ⟨eh, ex⟩ => ⟨W', ?_⟩⟩
    subst eh ex
    exact ⟨Grow.refl _ _ _, A', .int _⟩
  · show n ≤ _
    simp [rng]
end
section
variable {X : Cx} {T : Tb} {Wx : WX} {tg l e e2 : Expr} {es : List Expr} {m : XE} {ma : XA} {p pos tpos : Pos} {elts : List Expr} {kk : Nat}
def iAnyR (K : PySem.W.Frag) (tl : TE) : TI := fun σ H R => tl σ H fun x H1 => (∃ a, x = .ref a ∧ (∃ xs, SqL K H1 a xs) ∧ R (Itl K a) H1) ∨ (∃ a, x = .ref a ∧ (∃ xs, SqT K H1 a xs) ∧ R (Itt K a) H1) ∨ ∃ z, x = .str z ∧ R (Its z) H1
theorem pi_anyR {tl : TE} (hl : PE X l tl) : PI X tg l (iAnyR X.K tl) := by
  refine ⟨fun pins s σ H R I h => ?_⟩
  refine thn (hl.run pins s σ H _ I h) fun v s1 ⟨x, H1, I1, r1, q1⟩ => ?_
  rcases q1 with ⟨a, ex, ⟨xs, hq⟩, q⟩ | ⟨a, ex, ⟨xs, hq⟩, q⟩ | ⟨z, ex, q⟩
  · subst ex
    cases r1
    obtain ⟨its, rv, pl, hz⟩ := I1.list hq
    refine wpAny_pyIter_list pl.isList ?_
    refine ⟨s1.heap.objs.size, [s1.heap.objs.size], _, _, H1, rfl, I1.kept (t' := s1.toks) fun b o e => Heap.get?_push_of_some _ e, turn_list a _, ⟨_, Heap.get?_push_size _ rfl, rfl, rfl⟩, fun b hb => ?_, q⟩
    have e : b = s1.heap.objs.size := by simpa using hb
    subst e
    exact I1.fpOk (Nat.le_refl _) (I1.hok.fresh (Nat.le_refl _))
  · subst ex
    cases r1
    obtain ⟨its, rv, pl, hz⟩ := I1.tuple hq
    refine wpAny_pyIter_tuple (show s1.heap.IsTuple a its.toArray from pl) ?_
    refine ⟨s1.heap.objs.size, [s1.heap.objs.size], _, _, H1, rfl, I1.kept (t' := s1.toks) fun b o e => Heap.get?_push_of_some _ e, turn_tuple a _, ⟨_, Heap.get?_push_size _ rfl, rfl, rfl⟩, fun b hb => ?_, q⟩
    have e : b = s1.heap.objs.size := by simpa using hb
    subst e
    exact I1.fpOk (Nat.le_refl _) (I1.hok.fresh (Nat.le_refl _))
  · subst ex
    obtain ⟨t, rfl⟩ := r1
    cases ha : z.cps.all (· < 128)
    · exact wpAny_pyIter_wide ha (pi_one (tk := s1.toks) I1 _ (turn_str _ z t "str_iterator" (.inr rfl)) ⟨_, Heap.get?_push_size _ rfl, rfl, rfl⟩ q)
    · exact wpAny_pyIter_ascii ha (pi_one (tk := s1.toks) I1 _ (turn_str _ z t "str_ascii_iterator" (.inl rfl)) ⟨_, Heap.get?_push_size _ rfl, rfl, rfl⟩ q)
theorem mi_any (hl : ME X T Wx l m) : MI X T Wx tg l (iAny m) := by
  refine PI.imp (pi_anyR hl) fun σ H R ⟨W, st, σd, A, h⟩ => ?_
  refine step A h fun W1 st1 H1 d x a1 g1 r1 h1 => ?_
  obtain ⟨it, e, h1⟩ := OutG.opt h1
  cases d with
  | lst xs =>
    cases e
    obtain ⟨a, rfl, hq, J⟩ := itR_list (K := X.K) a1.abs r1 (show itOf st1 (.lst xs) = some ⟨xs, none⟩ from rfl) rfl
    exact .inl ⟨a, rfl, hq, OutG.now h1 a1.abs J⟩
  | loc i =>
    have e0 := e
    simp only [itOf] at e
    split at e
    · rename_i xs e1
      cases e
      obtain ⟨a, rfl, hq, J⟩ := itR_list (K := X.K) a1.abs r1 e0 (by simp only [lstOf, e1])
      exact .inl ⟨a, rfl, hq, OutG.now h1 a1.abs J⟩
    · cases e
  | tup xs =>
    cases e
    cases r1 with
    | tup hh rr => exact .inr (.inl ⟨_, rfl, ⟨_, SqT.of hh⟩, OutG.now h1 a1.abs (itR_tup a1.abs hh rr)⟩)
  | str s =>
    simp only [itOf] at e
    split at e
    · cases e
      cases r1
      exact .inr (.inr ⟨_, rfl, OutG.now h1 a1.abs itR_str⟩)
    · cases e
  | dct _ => cases e
  | non => cases e
  | bl _ => cases e
  | int _ => cases e
  | ins _ _ => cases e
  | scr _ => cases e
  | exn => cases e
theorem mi_range1 (hg : Gl X "range") (hm : X.mg "range" = none) (ha : MA X T Wx [e] ma) (hs : starEach [e] X.env = [(false, eval e X.env)] := by rfl) : MI X T Wx tg (.Call (.Name "range" p) [e] [] pos) (iRange1 ma) := by
  refine PI.imp (pi_range1 hg hm ha hs) fun σ H R ⟨W, st, σd, A, h⟩ => ?_
  refine step A h fun W1 st1 H1 ds xs a1 g1 r1 h1 => ?_
  split at h1
  · obtain ⟨x, rfl, rx⟩ := reps1 r1
    cases rx
    split at h1
    · rename_i hz
      exact ⟨_, rfl, by unfold two62 at hz; omega, by unfold two62 at hz; omega, OutG.now h1 a1.abs itR_rng⟩
    · exact False.elim h1
  · exact False.elim h1
theorem mi_range2 (hg : Gl X "range") (hm : X.mg "range" = none) (ha : MA X T Wx [e, e2] ma) (hs : starEach [e, e2] X.env = [(false, eval e X.env), (false, eval e2 X.env)] := by rfl) (hs2 : starEach [e2] X.env = [(false, eval e2 X.env)] := by rfl) : MI X T Wx tg (.Call (.Name "range" p) [e, e2] [] pos) (iRange2 ma) := by
  refine PI.imp (pi_range2 hg hm ha hs hs2) fun σ H R ⟨W, st, σd, A, h⟩ => ?_
  refine step A h fun W1 st1 H1 ds xs a1 g1 r1 h1 => ?_
  split at h1
  · obtain ⟨x, y, rfl, rx, ry⟩ := reps2 r1
    cases rx
    cases ry
    split at h1
    · rename_i hz
      exact ⟨_, _, rfl, by unfold two62 at hz; omega, OutG.now h1 a1.abs itR_rng⟩
    · exact False.elim h1
  · exact False.elim h1
end
section
variable {X : Cx} {T : Tb} {Wx : WX} {own : List Nat} {tg c iter : Expr} {body : List Stmt} {t : XT} {b : XS} {i : XI} {g : XG} {pos : Pos}
theorem OutSt.turn {E : Ends} {N : L2.St → Hp → Prop} {W : Wd} {st : Sto} {H : Hp} {o : OutS} {k : Env → Sto → OutS} (h : OutSt T Wx E W st H (match o with
    | .nx σ2 st2 => k σ2 st2
    | .ct σ2 st2 => k σ2 st2
    | .bk σ2 st2 => .nx σ2 st2
    | o => o)) (hn : ∀ W' st' σd' σ' H', Grow W st H W' st' H' → At T σ' W' st' H' σd' → OutSt T Wx E W' st' H' (k σd' st') → N σ' H') : OutSt T Wx { E with nx := N, ct := N, bk := E.nx } W st H o := by
  cases o with
  | nx σ1 st1 => exact fun W' H' σ' g a => hn W' st1 σ1 σ' H' g a (OutSt.shift g h)
  | rt d s => exact h
  | bk σ s => exact h
  | ct σ st1 => exact fun W' H' σ' g a => hn W' st1 σ σ' H' g a (OutSt.shift g h)
  | exc x σ s => exact h
  | bad => exact h
theorem ms_for (hp : PassesOwn (model X.prog X.w) X.A X.env X.xe) (hc : X.calm = true) (hi : MI X T Wx tg iter i) (hg : MG X T own tg g) (hb : MSs X T Wx body b) (hs : ∀ x, foldedSetIterable iter X.env x = pure x := by intro _; rfl) : MS X T Wx (.For tg iter body [] pos) (sFor i g b) :=
  PS.imp (ps_for hp hc hi hg hb hs) fun E σ H ⟨W, st, σd, A, h⟩ => by
    refine stepS A h (fun e s q => ?_) (fun q => ?_) fun W1 st1 H1 it J ex A1 g1 r1 h1 => ?_
    · simp only [sFor, q]
    · simp only [sFor, q]
    · simp only [sFor, ex] at h1
      refine ⟨fun k n σ H => k + n = it.ds.length ∧ ∃ W' st' σd', Grow W1 st1 H1 W' st' H ∧ At T σ W' st' H σd' ∧ OutSt T Wx E W' st' H (forL it g b (it.ds.drop k) σd' st'), ⟨it.ds.length, by simp, W1, st1, σd, Grow.refl _ _ _, A1, h1⟩, ?_⟩
      intro k n σ H ⟨hkn, W', st', σd', gg, a, o⟩
      cases n with
      | zero =>
        have hk : k = it.ds.length := by omega
        subst hk
        rw [List.drop_length] at o
        simp only [forL] at o
        split at o
        · rename_i ok
          exact .inl ⟨r1.stop W' st' H (gg.to A1.abs) a.abs ok, o W' H σ (Grow.refl _ _ _) a⟩
        · exact False.elim o
      | succ n =>
        have hk : k < it.ds.length := by omega
        rw [List.drop_eq_getElem_cons hk] at o
        simp only [forL] at o
        split at o
        · rename_i ok
          obtain ⟨hgo, hy⟩ := r1.go W' st' H k it.ds[k] (gg.to A1.abs) a.abs ok (List.getElem?_eq_getElem hk)
          refine .inr ⟨hgo, fun σ' H' => (k + 1) + n = it.ds.length ∧ ∃ W' st' σd', Grow W1 st1 H1 W' st' H' ∧ At T σ' W' st' H' σd' ∧ OutSt T Wx E W' st' H' (forL it g b (it.ds.drop (k + 1)) σd' st'), fun σ' H' hN => ⟨n, Nat.lt_succ_self _, hN⟩, fun x H2 hyl => ?_⟩
          obtain ⟨W2, g2, A2, r2⟩ := hy x H2 hyl
          refine ⟨W2, st', σd', it.ds[k], a.mono g2 A2, r2, ?_⟩
          cases eg : g it.ds[k] σd' st' with
          | none => rw [eg] at o; exact False.elim o
          | some pr =>
            rw [eg] at o
            refine fun W3 H3 σ3 g3 a3 _ => ⟨W3, pr.2, pr.1, a3, ?_⟩
            have o3 := OutSt.shift (g2.trans g3) o
            exact OutSt.turn (k := fun σ2 st2 => forL it g b (it.ds.drop (k + 1)) σ2 st2) o3 fun W4 st4 σd4 σ4 H4 g4 a4 o4 => ⟨by omega, W4, st4, σd4, ((gg.trans g2).trans g3).trans g4, a4, o4⟩
        · exact False.elim o
end
end Mi
end
section
set_option Elab.async false
set_option linter.all false
set_option maxRecDepth 100000
set_option autoImplicit false
namespace Mi
open PySem L2
def Wd.sub (W : Wd) (D : Addr) : Wd := ⟨W.fb.filter fun a => decide (a ≠ D), W.rho⟩
theorem sub_mem {W : Wd} {D a : Addr} : a ∈ (W.sub D).fb ↔ a ∈ W.fb ∧ a ≠ D := by simp [Wd.sub]
section
variable {T : Tb} {W W' W2 : Wd} {st st' st2 : Sto} {H H' H2 : Hp} {D : Addr}
theorem To.same (h : ∀ a, a ∈ W'.fb → a ∈ W.fb) (hr : W'.rho = W.rho) : To W st H W' st H := by
  refine To.less (fun a q => ?_) fun i a e => by rw [hr]; exact e
  rcases q with q | ⟨i, c, e1, e2, n⟩
  · exact .inl (h a q)
  · rw [hr] at e1; exact .inr ⟨i, c, e1, e2, n⟩
theorem Abs.same (A : Abs T W st H) (h : ∀ a, a ∈ W'.fb ↔ a ∈ W.fb) (hr : W'.rho = W.rho) : Abs T W' st H := by
  have t : To W st H W' st H := To.same (fun a q => (h a).mp q) hr
  have lv : ∀ a, LivO W' st a → LivO W st a := fun a ⟨i, c, e1, e2, n⟩ => ⟨i, c, by rw [← hr]; exact e1, e2, n⟩
  exact ⟨by rw [hr]; exact A.len, fun l c x e1 e2 => (A.cell l c x e1 (by rw [← hr]; exact e2)).to t fun _ e _ => e,
    fun l l' a c c' e1 e2 => A.one l l' a c c' (by rw [← hr]; exact e1) (by rw [← hr]; exact e2), fun a q z => A.out a (lv a q) ((h a).mp z), fun a q => A.fbt a ((h a).mp q), A.tabs⟩
theorem Abs.subAdd (A : Abs T W2 st2 H2) (hD : D ∈ W2.fb) : Abs T ((W2.sub D).add D) st2 H2 := by
  refine Abs.same A (fun a => ?_) rfl
  show a ∈ D :: (W2.sub D).fb ↔ _
  rw [List.mem_cons, sub_mem]
  constructor
  · rintro (rfl | h)
    · exact hD
    · exact h.1
  · intro h
    by_cases e : a = D
    · exact .inl e
    · exact .inr ⟨h, e⟩
theorem To.subAdd (hD : D ∈ W2.fb) : To W2 st2 H2 ((W2.sub D).add D) st2 H2 := by
  refine To.same (fun a q => ?_) rfl
  have q : a ∈ D :: (W2.sub D).fb := q
  rcases List.mem_cons.mp q with rfl | q
  · exact hD
  · exact (sub_mem.mp q).1
theorem Grow.sub (hD : D ∉ W.fb) (g : Grow (W.add D) st H W2 st2 H2) : Grow W st H (W2.sub D) st2 H2 where
  fbs := fun a h => sub_mem.mpr ⟨g.fbs a (List.mem_cons_of_mem _ h), fun e => hD (e ▸ h)⟩
  fbn := fun a h => by
    obtain ⟨h1, h2⟩ := sub_mem.mp h
    rcases g.fbn a h1 with q | q
    · exact .inl ((List.mem_cons.mp q).resolve_left h2)
    · exact .inr q
  rho := g.rho
  keep := fun a o h n t => (g.keep a o h n t).imp id fun q => ⟨q.1, fun z => q.2.1 (List.mem_cons_of_mem _ z), q.2.2⟩
  new := g.new
  still := g.still
theorem Grow.toAdd (hD : Nobj H D) (g : Grow W st H W' st' H') : Grow W st H (W'.add D) st' H' where
  fbs := fun a h => List.mem_cons_of_mem _ (g.fbs a h)
  fbn := fun a h => (List.mem_cons.mp h).elim (fun e => .inr (e ▸ hD)) (g.fbn a)
  rho := g.rho
  keep := g.keep
  new := g.new
  still := g.still
theorem Grow.updFree {o : HO} (hD : H D = none) (g : Grow W st H W' st' H') : Grow W st H W' st' (upd H' D o) where
  fbs := g.fbs
  fbn := g.fbn
  rho := g.rho
  keep := fun a u h n t => by rw [upd_ne (ne_of_none h hD)]; exact g.keep a u h n t
  new := g.new
  still := fun a u h t => by
    obtain ⟨u', e, t'⟩ := g.still a u h t
    exact ⟨u', by rw [upd_ne (ne_of_none h hD)]; exact e, t'⟩
/-- what only the proof knows is written -/
theorem To.updFb {o o' : HO} (A : Abs T W st H) (hD : D ∈ W.fb) (e : H D = some o) (ht : ∀ vs, o ≠ .tup vs) (hf : ∀ b u, o ≠ .frz b u) (hx : ∀ φ, o ≠ .ext φ := by intro φ z; cases z) : To W st H W st (upd H D o') := by
  refine ⟨fun a u h n t => ?_, fun a vs h => ?_, fun a b u h => ?_, fun _ _ h => h, fun a φ h => by rw [upd_ne (fun z => by rw [z, e] at h; exact hx _ (Option.some.inj h))]; exact h⟩
  · have : a ≠ D := fun z => n (.inl (z ▸ hD))
    exact ⟨.inl (by rw [upd_ne this]; exact h), n⟩
  · have : a ≠ D := fun z => by rw [z, e] at h; exact ht _ (Option.some.inj h)
    rw [upd_ne this]; exact h
  · have : a ≠ D := fun z => by rw [z, e] at h; exact hf _ _ (Option.some.inj h)
    rw [upd_ne this]; exact h
theorem Abs.updFb {o o' : HO} (A : Abs T W st H) (hto : ∀ ps, o' ≠ .tbl ps) (hD : D ∈ W.fb) (e : H D = some o) (ht : ∀ vs, o ≠ .tup vs) (hf : ∀ b u, o ≠ .frz b u) (hx : ∀ φ, o ≠ .ext φ := by intro φ z; cases z) : Abs T W st (upd H D o') := by
  have hb : ∀ ps, o ≠ .tbl ps := by
    obtain ⟨u, h, t⟩ := A.fbt D hD
    rw [e] at h; cases h; exact t
  refine ⟨A.len, fun l c x e1 e2 => ?_, A.one, A.out, fun a q => ?_, tabs_wr A.tabs e hb hx⟩
  · by_cases hd : c = .dead
    · subst hd; trivial
    · have : x ≠ D := fun z => A.out x ⟨l, c, e2, e1, hd⟩ (z ▸ hD)
      exact (A.cell l c x e1 e2).to (To.updFb A hD e ht hf hx) fun u h _ => by rw [upd_ne this]; exact h
  · by_cases hx : a = D
    · subst hx; exact ⟨o', upd_same, hto⟩
    · obtain ⟨u, h, t⟩ := A.fbt a q
      exact ⟨u, by rw [upd_ne hx]; exact h, t⟩
end
def WxF : WX := fun _ _ _ _ => False
def MTs (X : Cx) (T : Tb) (Wx : WX) (ifs : List Expr) (t : XT) : Prop := PTs X ifs (lT T Wx t)
theorem PTs.imp {X : Cx} {es : List Expr} {t t' : TT} (h : PTs X es t) (i : ∀ σ H Q, t' σ H Q → t σ H Q) : PTs X es t' := ⟨fun pins s σ H Q I q => h.run pins s σ H Q I (i _ _ _ q)⟩
section
variable {X : Cx} {T : Tb} {Wx : WX}
theorem mts_nil : MTs X T Wx [] tTrue := PTs.imp pts_nil fun σ H Q ⟨W, st, σd, A, h⟩ => OutG.now h A.abs rfl
theorem mts_one {c : Expr} {t : XT} (h : MT X T Wx c t) : MTs X T Wx [c] t := pts_one h
/-- where only an answer is let through -/
theorem stepF {α β : Type} {R : Wd → Sto → Hp → α → β → Prop} {m : Env → Sto → Out α} {σ : L2.St} {W : Wd} {st : Sto} {H : Hp} {σd : Env} {Q' : β → Hp → Prop} (a : At T σ W st H σd)
    (hok : ∃ x s1, m σd st = .ok x s1) (i : ∀ W1 st1 H1 x b, m σd st = .ok x st1 → At T σ W1 st1 H1 σd → Grow W st H W1 st1 H1 → R W1 st1 H1 x b → Q' b H1) : lG T R WxF m σ H Q' := by
  obtain ⟨x, s1, e⟩ := hok
  refine ⟨W, st, σd, a, ?_⟩
  rw [e]
  exact fun W1 H1 b g A r => i W1 s1 H1 x b e (a.mono g A) g r
/-- the state of a list comprehension's loop: D is the list that is made -/
structure LcS (T : Tb) (dd : Addr) (W1 : Wd) (st1 : Sto) (H1 : Hp) (σ0 : L2.St) (σd0 : Env) (acc : List D) (W : Wd) (st : Sto) (H : Hp) : Prop where
  gr : Grow W1 st1 H1 W st H
  ab : Abs T (W.add dd) st H
  no : dd ∉ W.fb
  li : ∃ vs, H dd = some (.lst vs) ∧ Reps T (W.add dd) st H acc vs
  sl : SlotsOk T (W.add dd) st H σd0 σ0
end
end Mi
end
section
set_option Elab.async false
set_option linter.all false
set_option maxRecDepth 100000
set_option autoImplicit false
namespace Mi
open PySem L2
section
variable {T : Tb} {dd : Addr} {W1 W W2 : Wd} {st1 st st2 : Sto} {H1 H H2 : Hp} {σ0 : L2.St} {σd0 : Env} {acc : List D}
/-- behind a turn: where it ended -/
theorem LcS.next (L : LcS T dd W1 st1 H1 σ0 σd0 acc W st H) (g : Grow (W.add dd) st H W2 st2 H2) (A : Abs T W2 st2 H2) : LcS T dd W1 st1 H1 σ0 σd0 acc (W2.sub dd) st2 H2 ∧ To W2 st2 H2 ((W2.sub dd).add dd) st2 H2 := by
  have hm : dd ∈ W2.fb := g.fbs dd List.mem_cons_self
  have t : To W2 st2 H2 ((W2.sub dd).add dd) st2 H2 := To.subAdd hm
  obtain ⟨vs, e, r⟩ := L.li
  refine ⟨⟨L.gr.trans (g.sub L.no), A.subAdd hm, fun q => (sub_mem.mp q).2 rfl, ⟨vs, g.keepN e L.ab.noAdd (fun _ z => by cases z) rfl, (r.mono L.ab g).to t⟩, (L.sl.to (g.to L.ab)).to t⟩, t⟩
/-- an item more -/
theorem LcS.push {d : D} {v : V} {vs : List V} (L : LcS T dd W1 st1 H1 σ0 σd0 acc W st H) (hd : H1 dd = none) (e : H dd = some (.lst vs)) (r : Rep T (W.add dd) st H d v) : LcS T dd W1 st1 H1 σ0 σd0 (acc ++ [d]) W st (upd H dd (.lst (vs ++ [v]))) := by
  obtain ⟨vs', e', rs⟩ := L.li
  rw [e] at e'; cases e'
  have t := To.updFb (o' := .lst (vs ++ [v])) L.ab (List.mem_cons_self) e (fun _ z => by cases z) (fun _ _ z => by cases z)
  exact ⟨L.gr.updFree hd, L.ab.updFb (fun _ z => by cases z) List.mem_cons_self e (fun _ z => by cases z) (fun _ _ z => by cases z), L.no, ⟨_, upd_same, (rs.append (.cons r .nil)).to t⟩, L.sl.to t⟩
theorem LcS.start {σ : L2.St} {σd : Env} (a : At T σ W st H σd) (hd : H dd = none) (own : List Nat) (hf : ∀ i ∈ own, T.free i) : LcS T dd W st H (L2.wipe σ own) (wipeV σd own) [] W st (upd H dd (.lst [])) := by
  have nf : dd ∉ W.fb := fun q => by obtain ⟨o, e, _⟩ := a.abs.fbt dd q; rw [hd] at e; cases e
  exact ⟨Grow.updFree hd (Grow.refl _ _ _), a.abs.addFresh hd (fun _ z => by cases z), nf, ⟨[], upd_same, .nil⟩, (a.slots.wipe own hf).to (To.add hd a.abs)⟩
end
theorem wipe_twice (τ : L2.St) (vs : List Nat) : L2.wipe (L2.wipe τ vs) vs = L2.wipe τ vs := by
  have none_of : ∀ {vs : List Nat} {ρ : L2.St} {j : Nat}, j ∈ vs → ∀ z, (L2.wipe ρ vs)[j]? ≠ some (some z) := fun hj z q => (wipe_some q).2 hj
  apply List.ext_getElem?
  intro j
  by_cases hj : j ∈ vs
  · by_cases hl : j < τ.length
    · have h1 : j < (L2.wipe (L2.wipe τ vs) vs).length := by rw [wipe_length, wipe_length]; exact hl
      have h2 : j < (L2.wipe τ vs).length := by rw [wipe_length]; exact hl
      rw [List.getElem?_eq_getElem h1, List.getElem?_eq_getElem h2]
      cases q1 : (L2.wipe (L2.wipe τ vs) vs)[j] with
      | some z => exact absurd (by rw [List.getElem?_eq_getElem h1, q1]) (none_of hj z)
      | none =>
        cases q2 : (L2.wipe τ vs)[j] with
        | some z => exact absurd (by rw [List.getElem?_eq_getElem h2, q2]) (none_of hj z)
        | none => rfl
    · rw [List.getElem?_eq_none (by rw [wipe_length, wipe_length]; omega), List.getElem?_eq_none (by rw [wipe_length]; omega)]
  · rw [wipe_out hj]
section
variable {T : Tb} {Wx : WX} {own : List Nat} {i : XI} {g : XG} {t : XT} {e : XE}
theorem lc_law (hpn : ∀ i ∈ own, T.free i) (σ : L2.St) (H : Hp) (Q : VK) (h : lC T Wx (cL (xComp own i g t e)) σ H Q) : tLc (lI T Wx i) (lGt T own g) (lT T WxF t) (lE T WxF e) own σ H Q := by
  obtain ⟨W, st, σd, A, h⟩ := h
  unfold cL xComp at h
  rw [bind_assoc] at h
  refine step A h fun W1 st1 H1 it J a1 g1 r1 h1 => ?_
  intro dd hD
  refine ⟨fun k n H' => k + n = it.ds.length ∧ ∃ W' st' acc, LcS T dd W1 st1 H1 (L2.wipe σ own) (wipeV σd own) acc W' st' H' ∧
      OutG T (RC T H) Wx σ W1 st1 H1 ((compL it g t e (wipeV σd own) (it.ds.drop k) st' acc).bind fun ds s => .ok (.lst ds) s) Q, ⟨it.ds.length, by simp, W1, st1, [], LcS.start a1 hD _ hpn, h1⟩, ?_⟩
  intro k n H' ⟨hkn, W', st', acc, L, o⟩
  have gA : Grow W1 st1 H1 (W'.add dd) st' H' := L.gr.toAdd (Nobj.of hD)
  cases n with
  | zero =>
    have hk : k = it.ds.length := by omega
    subst hk
    rw [List.drop_length] at o
    simp only [compL] at o
    split at o
    · rename_i okk
      refine .inl ⟨r1.stop (W'.add dd) st' H' (gA.to a1.abs) L.ab okk, ?_⟩
      exact o W' H' (.ref dd) L.gr L.ab.drop ⟨dd, rfl, L.ab, L.li, g1.nothing (Nobj.of hD), L.no⟩
    · exact False.elim o
  | succ n =>
    have hk : k < it.ds.length := by omega
    rw [List.drop_eq_getElem_cons hk] at o
    simp only [compL] at o
    split at o
    · rename_i okk
      obtain ⟨hgo, hy⟩ := r1.go (W'.add dd) st' H' k it.ds[k] (gA.to a1.abs) L.ab okk (List.getElem?_eq_getElem hk)
      refine .inr ⟨hgo, fun H' => (k + 1) + n = it.ds.length ∧ ∃ W' st' acc, LcS T dd W1 st1 H1 (L2.wipe σ own) (wipeV σd own) acc W' st' H' ∧
        OutG T (RC T H) Wx σ W1 st1 H1 ((compL it g t e (wipeV σd own) (it.ds.drop (k + 1)) st' acc).bind fun ds s => .ok (.lst ds) s) Q, fun H' hN => ⟨n, Nat.lt_succ_self _, hN⟩, fun x H2 hyl => ?_⟩
      obtain ⟨W2, g2, A2, r2⟩ := hy x H2 hyl
      refine ⟨W2, st', wipeV σd own, it.ds[k], ⟨A2, L.sl.to (g2.to L.ab)⟩, r2, ?_⟩
      cases eg : g it.ds[k] (wipeV σd own) st' with
      | none => rw [eg] at o; exact False.elim o
      | some pr =>
        obtain ⟨σ1, s1⟩ := pr
        rw [eg] at o
        simp only at o
        refine fun W3 H3 σ3 g3 a3 hw => ⟨hw.trans (wipe_twice _ _), ?_⟩
        · cases et : t σ1 s1 with
          | ok b s2 =>
            rw [et] at o
            refine stepF a3 ⟨b, s2, et⟩ fun W4 st4 H4 b' bb e4 a4 g4 r4 => ?_
            rw [et] at e4
            cases e4
            cases r4
            have gT : Grow (W'.add dd) st' H' W4 s2 H4 := (g2.trans g3).trans g4
            cases b with
            | true =>
              simp only at o
              refine iteT ?_
              cases ee : e σ1 s2 with
              | ok y s3 =>
                rw [ee] at o
                simp only at o
                refine stepF a4 ⟨y, s3, ee⟩ fun W5 st5 H5 y' v e5 a5 g5 r5 => ?_
                rw [ee] at e5
                cases e5
                obtain ⟨L5, t5⟩ := L.next (gT.trans g5) a5.abs
                split at o
                · rename_i hz
                  obtain ⟨vs, hv, rs⟩ := L5.li
                  refine ⟨vs, hv, by rw [rs.length, ← szL_eq]; exact hz, by omega, _, s3, _, L5.push hD hv (r5.to t5), o⟩
                · exact False.elim o
              | exc x s3 => rw [ee] at o; exact False.elim o
              | bad => rw [ee] at o; exact False.elim o
            | false =>
              simp only at o
              refine iteF ?_
              exact ⟨by omega, _, s2, _, (L.next gT a4.abs).1, o⟩
          | exc x s2 => rw [et] at o; exact False.elim o
          | bad => rw [et] at o; exact False.elim o
    · exact False.elim o
end
end Mi
end
section
set_option Elab.async false
set_option linter.all false
set_option maxRecDepth 100000
set_option autoImplicit false
namespace Mi
open PySem L2
section
variable {X : Cx} {T : Tb} {Wx : WX} {e e2 : Expr} {ma : XA} {p pos tpos : Pos} {elts : List Expr} {kk : Nat}
end
end Mi
end
section
set_option Elab.async false
set_option linter.all false
set_option maxRecDepth 100000
set_option autoImplicit false
set_option maxHeartbeats 2000000
namespace Mi
open PySem L2
/-- room, and no guard -/
structure Room (k : Nat) (A : Around) : Prop where
  toR : L2.Room k A
  gd : A.guards = some []
theorem Room.hd {k : Nat} {A : Around} (r : Room k A) : A.handled = none := r.toR.hd
theorem Room.dp {k : Nat} {A : Around} (r : Room k A) : A.depth + 3 * k + 5 < recursionLimit := r.toR.dp
theorem Room.un {k : Nat} {A : Around} (r : Room k A) : A.units + 16 * k + 200 < cLine := r.toR.un
theorem Room.depth {k : Nat} {A : Around} (r : Room k A) : A.depth < recursionLimit := r.toR.depth
theorem Room.units {k : Nat} {A : Around} (r : Room k A) : A.units + 64 < cLine := r.toR.units
theorem Room.mono {j k : Nat} {A : Around} (r : Room k A) (h : j ≤ k) : Room j A := ⟨r.toR.mono h, r.gd⟩
theorem Room.deeper {k : Nat} {A : Around} (r : Room (k + 1) A) (env : PySem.Env) : Room k (A.deeper env) := ⟨r.toR.deeper env, r.gd⟩
theorem Room.in1 {k : Nat} {A : Around} (r : Room (k + 1) A) : Room k A.in1 := ⟨r.toR.in1, r.gd⟩
theorem make_guards {A : Around} {C : Addr} {us : List Value} {kw : List (PySem.Str × Value)} (h : A.guards = some []) : (A.under (.builtin "type.__call__" ⟨.ref C :: us, kw⟩)).guards = some [] := by
  first | exact h | simp [Around.under, Code.guards, Code.isGuard, pushGuards, guardIds, h]
theorem Room.make {k : Nat} {A : Around} (r : Room (k + 1) A) (C : Addr) (us : List Value) (kw : List (PySem.Str × Value)) : Room k (A.under (.builtin "type.__call__" ⟨.ref C :: us, kw⟩)) := ⟨r.toR.make C us kw, make_guards r.gd⟩
/-- a def's promise, where no guard stands -/
structure FnOk (P : Program) (w : World) (K : PySem.W.Frag) (mg : PySem.Str → Option Value) (base : Heap) (CX : CXT) (k : Nat) (f : Addr) (fd : FuncData) (ps : List PySem.Str) (sp : Sp) : Prop where
  len : ∀ vs H Q E, sp vs H Q E → vs.length = ps.length
  run : ∀ (A : Around) (outer : List PySem.Env) (s : Shared) (H : Hp) (args : Args) (us : List Value) (vs : List V) (Q : VK) (E : XK), Room k A → Env0 P w K mg base A outer s H → BindsTo s fd args (ps.zip us) → Vals vs us → sp vs H Q E →
    codeAny (model P w) A (.call (.ref f) args) (CR CX outer P w H s Q E) s
theorem FnOk.mono {P : Program} {w : World} {K : PySem.W.Frag} {mg : PySem.Str → Option Value} {base : Heap} {CX : CXT} {j k : Nat} {f : Addr} {fd : FuncData} {ps : List PySem.Str} {sp : Sp} (F : FnOk P w K mg base CX j f fd ps sp) (h : j ≤ k) :
    FnOk P w K mg base CX k f fd ps sp := ⟨F.len, fun A outer s H args us vs Q E hr => F.run A outer s H args us vs Q E (hr.mono h)⟩
/-- a def by its body -/
theorem FunD.okG {P : Program} {w : World} {K : PySem.W.Frag} {mg : PySem.Str → Option Value} {base : Heap} {x qual : PySem.Str} {params : Arguments} {body : List Stmt} {scope : Scope} {dvs : List V} {kws : List (PySem.Str × V)} {f : Addr} {fd : FuncData}
    {CX : CXT} {N ps : List PySem.Str} {k : Nat} {sp : Sp} (F : FunD K x qual params body scope dvs kws f fd) (S : FnScope N ps scope) (len : ∀ vs H Q E, sp vs H Q E → vs.length = ps.length)
    (hbody : ∀ (cdv : Value) (A : Around) (outer : List PySem.Env) (s : Shared) (H : Hp) (vs : List V) (Q : VK) (E : XK), Room k (A.deeper (PyProof.Rows.envOfC qual scope s.heap.objs.size f cdv)) → sp vs H Q E →
      ∃ t, PSs (cxOf CX P w K mg base N qual scope f cdv A outer s H E) body t ∧ t { nx := fun _ H' => Q .non H', rt := Q } (L2.start N vs) H) : FnOk P w K mg base CX (k + 1) f fd ps sp := by
  obtain ⟨oc, od, dV, kV, doc, pm, an, cdv, ct, osl, rfl, lk, hcd, _, _⟩ := F.ex
  exact ⟨len, fun A outer s H args us vs Q E hr e0 hb hv hs => LamX.run_ofS lk hcd S hr.toR e0 hb hv (len _ _ _ _ hs) fun _ => hbody cdv A outer s H vs Q E (hr.deeper _) hs⟩
/-- below the running body: as much room -/
structure Sub (X : Cx) (n : Nat) (A : Around) : Prop where
  room : Room n A
  fr : A.frames = X.A.frames
section
variable {X : Cx} {CX : CXT} {k : Nat} {f : Addr} {fd : FuncData} {ps : List PySem.Str} {sp : Sp} {E : L2.St → XK} {x : PySem.Str} {p pos : Pos} {e : Expr} {es : List Expr} {t : TA}
/-- below the running body, a def runs -/
theorem run_at {CX : CXT} {f : Addr} {fd : FuncData} {ps : List PySem.Str} {sp : Sp} {E : XK} {A : Around} {pins : List (Addr × Obj)} {σ : L2.St} {H : Hp} {s : Shared} {Q : VK} {us : List Value} {vs : List V} (F : FnOk X.prog X.w X.K X.mg X.base CX k f fd ps sp) (sb : Sub X k A) (hb : Binds X.K fd ps [])
    (hx : PassesAt CX X σ E) (I : L2.Inv X pins σ H s) (r : Vals vs us) (h : sp vs H Q E) : wpAny (model X.prog X.w) A (call (.ref f) us) (EP X pins σ Q) X.xe s := by
  have hl : us.length = ps.length := by rw [← r.length]; exact F.len _ _ _ _ h
  have b := hb s us I.kIn (by rw [List.append_nil]; exact hl)
  rw [List.append_nil] at b
  have e0 : Env0 X.prog X.w X.K X.mg X.base A X.stack s H := by
    have e := I.env0
    exact ⟨by rw [sb.fr]; exact e.frames, e.mod, e.bs, e.bsz, e.funs, e.frf, e.hok, e.bare⟩
  refine wpAny_call (codeAny_mono (F.run A X.stack s H ⟨us, []⟩ us vs Q E sb.room e0 b r h) fun r s' hq => ?_)
  cases r with
  | error e => exact hx pins H s e s' I hq
  | ok fl =>
    cases fl with
    | ret u => exact I.after hq
    | next => exact False.elim hq
    | brk => exact False.elim hq
    | cont => exact False.elim hq
theorem pe_callSD (F : FnOk X.prog X.w X.K X.mg X.base CX k f fd ps sp) (hr : Room k X.A) (hg : Gl X x) (hm : X.mg x = some (.ref f)) (hk : PySem.W.keepIn X.K (.ref f) = true) (hb : Binds X.K fd ps []) (hx : ∀ σ, PassesAt CX X σ (E σ))
    (ha : PA X (e :: es) t) (hdb : (x == ("__debug__" : PySem.Str)) = false := by decide) (he : starEach (e :: es) X.env = (false, eval e X.env) :: starEach es X.env := by rfl) (hpl : (backTo pos (starEach es X.env)).any (·.1) = false := by rfl) :
    PE X (.Call (.Name x p) (e :: es) [] pos) (tCallSD sp [] E t) := by
  refine ⟨fun pins s σ H Q I h => ?_⟩
  refine wpAny_Call_Name_kw (ld_glob I hg hm ?_ hdb)
  refine PySem.W.callWith_K (h₀ := X.base) I.ok.mod.kin hk (thn (ha.run pos pins s σ H _ I h) fun us s1 ⟨vs, H1, I1, r, q⟩ => ⟨I1.kIn, ?_⟩) he hpl
  have q : sp (vs ++ []) H1 Q (E σ) := q
  rw [List.append_nil] at q
  exact run_at F ⟨hr, rfl⟩ hb (hx σ) I1 r q
end
end Mi
end
section
set_option Elab.async false
set_option linter.all false
set_option maxRecDepth 100000
set_option autoImplicit false
namespace Mi
open PySem L2
mutual
theorem pure_under : ∀ d : D, d.pure = d.under 0
  | .tup xs => by simp only [D.pure, D.under, pureL_under xs]
  | .lst xs => by simp only [D.pure, D.under, pureL_under xs]
  | .dct kvs => by simp only [D.pure, D.under, pureK_under kvs]
  | .ins _ fs => by simp only [D.pure, D.under, pureF_under fs]
  | .loc l => by simp [D.pure, D.under]
  | .scr _ => rfl
  | .exn => rfl
  | .non => rfl
  | .bl _ => rfl
  | .int _ => rfl
  | .str _ => rfl
theorem pureL_under : ∀ d : List D, pureL d = underL 0 d
  | [] => rfl
  | x :: xs => by simp only [pureL, underL, pure_under x, pureL_under xs]
theorem pureK_under : ∀ d : List (D × D), pureK d = underK 0 d
  | [] => rfl
  | (k, v) :: xs => by simp only [pureK, underK, pure_under k, pure_under v, pureK_under xs]
theorem pureF_under : ∀ d : List (Nat × D), pureF d = underF 0 d
  | [] => rfl
  | (k, v) :: xs => by simp only [pureF, underF, pure_under v, pureF_under xs]
end
section
variable {T : Tb} {W W' : Wd} {st st' : Sto} {H : Hp} {n : Nat} (hl : ∀ a, Liv W' st' a → Liv W st a) (hr : ∀ (l : Nat) (a : Addr), l < n → W.rho[l]? = some a → W'.rho[l]? = some a)
include hl hr
mutual
theorem Rep.un : ∀ {d : D} {v : V}, d.under n = true → Rep T W st H d v → Rep T W' st' H d v
  | _, _, _, .non => .non
  | _, _, _, .bl b => .bl b
  | _, _, _, .int i => .int i
  | _, _, _, .str s => .str s
  | _, _, u, .tup h r => .tup h (Reps.un (by simpa [D.under] using u) r)
  | _, _, u, .lst h r => .lst ⟨h.1, fun q => h.2 (hl _ q)⟩ (Reps.un (by simpa [D.under] using u) r)
  | _, _, u, .dK h r => .dK (h.imp (fun q => ⟨q.1, fun z => q.2 (hl _ z)⟩) id) (RepK.un (by simpa [D.under] using u) r)
  | _, _, u, .dT h r => .dT (h.imp (fun q => ⟨q.1, fun z => q.2 (hl _ z)⟩) id) (RepT.un (by simpa [D.under] using u) r)
  | _, _, u, .ins h nl sb r => .ins h (fun q => nl (hl _ q)) sb (RepF.un (by simpa [D.under] using u) r)
  | _, _, u, .loc h => .loc (hr _ _ (by simpa [D.under] using u) h)
  | _, _, u, .scr _ _ => by simp [D.under] at u
theorem Reps.un : ∀ {d : List D} {v : List V}, underL n d = true → Reps T W st H d v → Reps T W' st' H d v
  | _, _, _, .nil => .nil
  | _, _, u, .cons h r => .cons (Rep.un (by simp [underL] at u; exact u.1) h) (Reps.un (by simp [underL] at u; exact u.2) r)
theorem RepK.un : ∀ {d : List (D × D)} {v : List (Key × V)}, underK n d = true → RepK T W st H d v → RepK T W' st' H d v
  | _, _, _, .nil => .nil
  | _, _, u, .cons hk h r => .cons hk (Rep.un (by simp [underK] at u; exact u.1.2) h) (RepK.un (by simp [underK] at u; exact u.2) r)
theorem RepT.un : ∀ {d : List (D × D)} {v : List (List Key × V)}, underK n d = true → RepT T W st H d v → RepT T W' st' H d v
  | _, _, _, .nil => .nil
  | _, _, u, .cons hk h r => .cons hk (Rep.un (by simp [underK] at u; exact u.1.2) h) (RepT.un (by simp [underK] at u; exact u.2) r)
theorem RepF.un : ∀ {d : List (Nat × D)} {v : List (PySem.Str × V)}, underF n d = true → RepF T W st H d v → RepF T W' st' H d v
  | _, _, _, .nil => .nil
  | _, _, u, .cons hk h r => .cons hk (Rep.un (by simp [underF] at u; exact u.1) h) (RepF.un (by simp [underF] at u; exact u.2) r)
end
theorem CellOk.un {c : Cell} {a : Addr} (u : c.under n = true) (h : CellOk T W st H c a) : CellOk T W' st' H c a := by
  cases c with
  | lst xs => obtain ⟨vs, e, r⟩ := h; exact ⟨vs, e, Reps.un hl hr (by simpa [Cell.under] using u) r⟩
  | dct kvs =>
    rcases h with ⟨vs, e, r⟩ | ⟨vs, e, r⟩
    · exact .inl ⟨vs, e, RepK.un hl hr (by simpa [Cell.under] using u) r⟩
    · exact .inr ⟨vs, e, RepT.un hl hr (by simpa [Cell.under] using u) r⟩
  | ins c fs => obtain ⟨dx, vs, e, r⟩ := h; exact ⟨dx, vs, e, RepF.un hl hr (by simpa [Cell.under] using u) r⟩
  | dead => trivial
end
theorem cellsUnder_get : ∀ {st : Sto} {n l : Nat} {c : Cell}, cellsUnder n st = true → st[l]? = some c → c.under n = true
  | [], _, _, _, _, e => by simp at e
  | x :: st, n, 0, c, h, e => by simp at e; subst e; simp [cellsUnder] at h; exact h.1
  | x :: st, n, l + 1, c, h, e => cellsUnder_get (by simp [cellsUnder] at h; exact h.2) (by simpa using e)
section
variable {T : Tb} {W W2 : Wd} {st st2 : Sto} {H H2 : Hp}
/-- the world of the first n cells -/
def Wd.cut (W : Wd) (n : Nat) : Wd := ⟨W.fb, W.rho.take n⟩
theorem cut_liv {n : Nat} {a : Addr} (h : Liv (W2.cut n) (st2.take n) a) : Liv W2 st2 a := by
  rcases h with h | ⟨i, c, e1, e2, nd⟩
  · exact .inl h
  · have hi : i < n := by
      have := (List.getElem?_eq_some_iff.mp e2).1
      rw [List.length_take] at this; omega
    rw [List.getElem?_take_of_lt hi] at e2
    have e1' : (W2.rho.take n)[i]? = some a := e1
    rw [List.getElem?_take_of_lt hi] at e1'
    exact .inr ⟨i, c, e1', e2, nd⟩
theorem cut_rho {n l : Nat} {a : Addr} (h : l < n) (e : W2.rho[l]? = some a) : (W2.cut n).rho[l]? = some a := by
  show (W2.rho.take n)[l]? = some a
  rw [List.getElem?_take_of_lt h]; exact e
/-- new cells that nobody knows any more are forgotten -/
theorem cut_ok (A : Abs T W st H) (g : Grow W st H W2 st2 H2) (A2 : Abs T W2 st2 H2) (u : cellsUnder st.length (st2.take st.length) = true) :
    Grow W st H (W2.cut st.length) (st2.take st.length) H2 ∧ Abs T (W2.cut st.length) (st2.take st.length) H2 := by
  have hpre : W.rho <+: (W2.cut st.length).rho := by
    show W.rho <+: W2.rho.take st.length
    obtain ⟨r, hr⟩ := g.rho
    rw [← hr, ← A.len]
    simp
  have lo : ∀ {a}, LivO (W2.cut st.length) (st2.take st.length) a → LivO W2 st2 a := fun {a} h => by
    obtain ⟨i, c, e1, e2, nd⟩ := h
    have hi : i < st.length := by
      have := (List.getElem?_eq_some_iff.mp e2).1
      rw [List.length_take] at this; omega
    rw [List.getElem?_take_of_lt hi] at e2
    have e1' : (W2.rho.take st.length)[i]? = some a := e1
    rw [List.getElem?_take_of_lt hi] at e1'
    exact ⟨i, c, e1', e2, nd⟩
  refine ⟨⟨g.fbs, g.fbn, hpre, g.keep, fun a h => g.new a (lo h), g.still⟩, ⟨by
      show (W2.rho.take st.length).length = (st2.take st.length).length
      rw [List.length_take, List.length_take, A2.len], fun l c a e1 e2 => ?_, fun l l' a c c' e1 e2 e3 e4 n n' => ?_, fun a h => A2.out a (lo h), A2.fbt, A2.tabs⟩⟩
  · have hi : l < st.length := by
      have := (List.getElem?_eq_some_iff.mp e1).1
      rw [List.length_take] at this; omega
    have uc := cellsUnder_get u e1
    rw [List.getElem?_take_of_lt hi] at e1
    have e2' : (W2.rho.take st.length)[l]? = some a := e2
    rw [List.getElem?_take_of_lt hi] at e2'
    exact CellOk.un (fun a h => cut_liv h) (fun l a h e => cut_rho h e) uc (A2.cell l c a e1 e2')
  · have hi : l < st.length := by
      have := (List.getElem?_eq_some_iff.mp e3).1
      rw [List.length_take] at this; omega
    have hi' : l' < st.length := by
      have := (List.getElem?_eq_some_iff.mp e4).1
      rw [List.length_take] at this; omega
    rw [List.getElem?_take_of_lt hi] at e3
    rw [List.getElem?_take_of_lt hi'] at e4
    have e1' : (W2.rho.take st.length)[l]? = some a := e1
    have e2' : (W2.rho.take st.length)[l']? = some a := e2
    rw [List.getElem?_take_of_lt hi] at e1'
    rw [List.getElem?_take_of_lt hi'] at e2'
    exact A2.one l l' a c c' e1' e2' e3 e4 n n'
theorem ExR.un {W' : Wd} {st' : Sto} {n : Nat} {e : Exn} {cls : Value} {x : Option Addr} (hl : ∀ a, Liv W' st' a → Liv W st a) (hr : ∀ (l : Nat) (a : Addr), l < n → W.rho[l]? = some a → W'.rho[l]? = some a) (u : underF n e.fs = true) (h : ExR T W st H e cls x) : ExR T W' st' H e cls x := by
  refine ⟨h.1, h.2.imp id fun ⟨hne, y, vs, e1, e2, e3, e4⟩ => ⟨hne, y, vs, e1, e2, fun q => e3 (hl _ q), RepF.un hl hr u e4⟩⟩
theorem OutG.trunc {Wx : WX} {σ : L2.St} {Q : VK} {o : Out D} (A : Abs T W st H) (h : OutG T (Rep T) Wx σ W st H (Mi.trunc st.length o) Q) : OutG T (Rep T) Wx σ W st H o Q := by
  cases o with
  | ok d s =>
    simp only [Mi.trunc] at h
    split at h
    · rename_i u
      simp only [Bool.and_eq_true] at u
      intro W2 H2 v g A2 r
      obtain ⟨g', A'⟩ := cut_ok A g A2 u.2
      exact h _ H2 v g' A' (r.un (fun a q => cut_liv q) (fun l a q e => cut_rho q e) u.1)
    · exact h
  | exc e s =>
    simp only [Mi.trunc] at h
    split at h
    · rename_i u
      simp only [Bool.and_eq_true] at u
      intro W2 H2 c x g A2 r
      obtain ⟨g', A'⟩ := cut_ok A g A2 u.2
      exact h _ H2 c x g' A' (r.un (fun a q => cut_liv q) (fun l a q e => cut_rho q e) u.1)
    · exact h
  | bad => exact h
/-- the live cells' places -/
def livs (W : Wd) (st : Sto) : List Addr := ((W.rho.zip st).filter fun p => match p.2 with
  | .dead => false
  | _ => true).map (·.1)
theorem livs_iff {a : Addr} : a ∈ livs W st ↔ LivO W st a := by
  unfold livs
  rw [List.mem_map]
  constructor
  · rintro ⟨⟨x, c⟩, h1, rfl⟩
    obtain ⟨h2, h3⟩ := List.mem_filter.mp h1
    obtain ⟨i, hi⟩ := List.getElem?_of_mem h2
    rw [List.getElem?_zip_eq_some] at hi
    exact ⟨i, c, hi.1, hi.2, fun e => by subst e; cases h3⟩
  · rintro ⟨i, c, e1, e2, n⟩
    refine ⟨(a, c), List.mem_filter.mpr ⟨List.mem_of_getElem? (i := i) (List.getElem?_zip_eq_some.mpr ⟨e1, e2⟩), ?_⟩, rfl⟩
    cases c <;> first | rfl | exact absurd rfl n
/-- a world without cells: what is live is not known -/
def Wd.out (W : Wd) (st : Sto) : Wd := ⟨W.fb ++ livs W st, []⟩
theorem out_liv {a : Addr} : Liv (W.out st) [] a ↔ Liv W st a := by
  constructor
  · rintro (h | ⟨i, c, e1, e2, n⟩)
    · rcases List.mem_append.mp h with h | h
      · exact .inl h
      · exact .inr (livs_iff.mp h)
    · simp at e2
  · rintro (h | h)
    · exact .inl (List.mem_append_left _ h)
    · exact .inl (List.mem_append_right _ (livs_iff.mpr h))
theorem Abs.outW (A : Abs T W st H) : Abs T (W.out st) [] H := by
  refine ⟨rfl, fun l c a e1 _ => by simp at e1, fun l l' a c c' _ _ e3 => by simp at e3, fun a h => ?_, fun a h => ?_, A.tabs⟩
  · obtain ⟨i, c, e1, e2, n⟩ := h
    simp at e2
  · rcases List.mem_append.mp h with h | h
    · exact A.fbt a h
    · exact A.tracked (livs_iff.mp h)
theorem Grow.back (A : Abs T W st H) {W' : Wd} {st' : Sto} {H' : Hp} (g : Grow (W.out st) [] H W' st' H') (A' : Abs T W' st' H') : Grow W st H W st H' ∧ Abs T W st H' ∧ ∀ a, Liv W st a → a ∈ W'.fb := by
  have nl : ∀ a, ¬ LivO (W.out st) [] a := fun a ⟨i, c, e1, e2, n⟩ => by simp at e2
  have gg : Grow W st H W st H' := ⟨fun _ q => q, fun _ q => .inl q, List.prefix_refl _, fun a o h _ t => (g.keep a o h (nl a) t).imp id fun q => ⟨q.1, fun z => q.2.1 (List.mem_append.mpr (.inl z)), q.2.2⟩, fun _ q => .inl q, g.still⟩
  refine ⟨gg, ⟨A.len, fun l c a e1 e2 => ?_, A.one, A.out, fun a q => ?_, A'.tabs⟩, fun a q => ?_⟩
  · by_cases hd : c = .dead
    · subst hd; trivial
    · exact (A.cell l c a e1 e2).to (gg.to A) fun o e t => g.keepB e (nl a) t (List.mem_append.mpr (.inr (livs_iff.mpr ⟨l, c, e2, e1, hd⟩)))
  · obtain ⟨o, e, t⟩ := A.fbt a q
    exact g.still a o e t
  · rcases out_liv.mpr q with z | ⟨i, c, e1, e2, n⟩
    · exact g.fbs a z
    · simp at e2
theorem OutG.runP {Wx : WX} {σ : L2.St} {Q : VK} {g : Fn} {ds : List D} (A : Abs T W st H) (h : OutG T (Rep T) Wx σ W st H (Mi.runP g ds st) Q) : OutG T (Rep T) Wx σ (W.out st) [] H (g ds []) Q := by
  simp only [Mi.runP] at h
  cases e : g ds [] with
  | ok d s =>
    rw [e] at h
    simp only at h
    cases ef : fz s d with
    | none => rw [ef] at h; exact False.elim h
    | some p =>
      obtain ⟨d', s'⟩ := p
      rw [ef] at h
      simp only at h
      split at h
      · rename_i hp
        intro W2 H2 v g2 A2 r
        obtain ⟨l, r'⟩ := trD_ok (fzN_ok 6) d s s' d' v A2 r ef
        obtain ⟨gg, AA, lv⟩ := g2.back A A2
        exact h W H2 v gg AA (Rep.un (n := 0) (fun a q => .inl (lv a q)) (fun l a q => absurd q (Nat.not_lt_zero _)) (by rw [← pure_under]; exact hp) r')
      · exact False.elim h
  | exc x s =>
    rw [e] at h
    simp only at h
    split at h
    · rename_i hp
      intro W2 H2 c y g2 A2 r
      obtain ⟨gg, AA, lv⟩ := g2.back A A2
      exact h W H2 c y gg AA (ExR.un (n := 0) (fun a q => .inl (lv a q)) (fun l a q => absurd q (Nat.not_lt_zero _)) (by rw [← pureF_under]; exact hp) r)
    · exact False.elim h
  | bad => rw [e] at h; exact h
end
theorem OutG.noσ {T : Tb} {Wx : WX} {σ τ : L2.St} {W : Wd} {st : Sto} {H : Hp} {o : Out D} {Q : VK} (h : OutG T (Rep T) Wx σ W st H o Q) : OutG T (Rep T) (fun cls x _ H => Wx cls x σ H) τ W st H o Q := by
  cases o with
  | ok d s => exact h
  | exc e s => exact h
  | bad => exact h
/-- what the mirror g promises of a def with np parameters -/
def spM (T : Tb) (np : Nat) (g : Fn) : Sp := fun vs H Q E => vs.length = np ∧ ∃ W st ds, Abs T W st H ∧ Reps T W st H ds vs ∧ OutG T (Rep T) (fun cls x _ H => E cls x H) [] W st H (g ds st) Q
theorem startV_ok {T : Tb} {W : Wd} {st : Sto} {H : Hp} {ds : List D} {vs : List V} {N : List PySem.Str} (hpn : T.pin = []) (r : Reps T W st H ds vs) : SlotsOk T W st H (startV ds N.length) (L2.start N vs) := by
  have hl := r.length
  refine ⟨by simp [startV, L2.start, hl], fun i d e => ?_, fun p hp => by rw [hpn] at hp; cases hp⟩
  unfold startV at e
  unfold L2.start
  by_cases hi : i < ds.length
  · rw [List.getElem?_append_left (by simpa using hi)] at e
    rw [List.getElem?_map] at e
    simp only [Option.map_eq_some_iff] at e
    obtain ⟨x, e1, e2⟩ := e
    cases e2
    obtain ⟨v, e3, r3⟩ := r.get e1
    refine ⟨v, ?_, r3⟩
    rw [List.getElem?_append_left (by simp [hl, hi]), List.getElem?_map, e3]; rfl
  · rw [List.getElem?_append_right (by simpa using hi)] at e
    rw [List.getElem?_replicate] at e
    split at e
    · cases e
    · cases e
theorem OutSt.end {T : Tb} {Wx : WX} {W : Wd} {st : Sto} {H : Hp} {o : OutS} {Q : VK} {E : XK} {σ : L2.St} (hw : ∀ cls x σ H, E cls x H → Wx cls x σ H) (h : OutG T (Rep T) (fun cls x _ H => E cls x H) σ W st H (match o with
    | .nx _ st' => .ok .non st'
    | .rt d st' => .ok d st'
    | .exc e _ st' => .exc e st'
    | _ => .bad) Q) : OutSt T Wx { nx := fun _ H' => Q .non H', rt := Q } W st H o := by
  cases o with
  | nx σ1 s => exact fun W' H' σ' g a => h W' H' .non g a.abs .non
  | rt d s => exact h
  | bk _ _ => exact False.elim h
  | ct _ _ => exact False.elim h
  | exc e σ1 s => exact fun W' H' σ' cls x g a r => hw _ _ _ _ (h W' H' cls x g a.abs r)
  | bad => exact h
section
variable {P : Program} {w : World} {K : PySem.W.Frag} {mg : PySem.Str → Option Value} {base : Heap}
/-- the context of a def's body -/
abbrev bodyCx (P : Program) (w : World) (K : PySem.W.Frag) (mg : PySem.Str → Option Value) (base : Heap) (N : List PySem.Str) (qual : PySem.Str) (sc : Scope) (f : Addr) (cdv : Value) (A : Around) (outer : List PySem.Env) (s : Shared) (H : Hp) (E : XK) : Cx :=
  cxOf (L2.CX P w) P w K mg base N qual sc f cdv A outer s H E
abbrev bodyWx (E : XK) : WX := fun cls d _ H => E cls d H
theorem takes_body {N : List PySem.Str} {qual : PySem.Str} {sc : Scope} {f : Addr} {cdv : Value} {A : Around} {outer : List PySem.Env} {s : Shared} {H : Hp} {E : XK} : Takes (bodyCx P w K mg base N qual sc f cdv A outer s H E) (bodyWx E) :=
  takes_of rfl rfl rfl rfl
theorem passes_body {N : List PySem.Str} {qual : PySem.Str} {sc : Scope} {f : Addr} {cdv : Value} {A : Around} {outer : List PySem.Env} {s : Shared} {H : Hp} {E : XK} :
    PassesOwn (model (bodyCx P w K mg base N qual sc f cdv A outer s H E).prog (bodyCx P w K mg base N qual sc f cdv A outer s H E).w) (bodyCx P w K mg base N qual sc f cdv A outer s H E).A (bodyCx P w K mg base N qual sc f cdv A outer s H E).env (bodyCx P w K mg base N qual sc f cdv A outer s H E).xe :=
  passes_of (E₁ := _) rfl
/-- a def that is never called so deep -/
theorem fn_bad {T : Tb} {f : Addr} {fd : FuncData} {ps : List PySem.Str} {k np : Nat} (hnp : ps.length = np) : FnOk P w K mg base (L2.CX P w) k f fd ps (spM T np fnBad) :=
  ⟨fun vs H Q E h => by rw [hnp]; exact h.1, fun A outer s H args us vs Q E hr e hb hv hs => by
    obtain ⟨_, W, st, ds, _, _, o⟩ := hs
    exact False.elim o⟩
end
/-- a def that may be called -/
structure Df (X : Cx) (T : Tb) (k : Nat) (x : PySem.Str) (np : Nat) (g : Fn) : Prop where
  ex : ∃ (f : Addr) (fd : FuncData) (ps : List PySem.Str), FnOk X.prog X.w X.K X.mg X.base (L2.CX X.prog X.w) k f fd ps (spM T np g) ∧ X.mg x = some (.ref f) ∧ PySem.W.keepIn X.K (.ref f) = true ∧ Binds X.K fd ps [] ∧ ps.length = np
section
variable {X : Cx} {T : Tb} {Wx : WX} {x : PySem.Str} {k j np : Nat} {g : Fn} {e : Expr} {es : List Expr} {ma : XA} {p pos : Pos}
theorem me_call (D : Df X T k x np g) (hr : Room j X.A) (hk : k ≤ j) (tk : Takes X Wx) (hg : Gl X x) (ha : MA X T Wx (e :: es) ma) (hdb : (x == ("__debug__" : PySem.Str)) = false := by decide)
    (he : starEach (e :: es) X.env = (false, eval e X.env) :: starEach es X.env := by rfl) (hpl : (backTo pos (starEach es X.env)).any (·.1) = false := by rfl) :
    ME X T Wx (.Call (.Name x p) (e :: es) [] pos) (xCall np g ma) := by
  obtain ⟨f, fd, ps, F, hm, hkp, hb, hps⟩ := D.ex
  refine PE.imp (pe_callSD F (hr.mono hk) hg hm hkp hb (fun σ => passAt tk σ) ha hdb he hpl) fun σ H Q ⟨W, st, σd, A, h⟩ => ?_
  refine step A h fun W1 st1 H1 ds vs a1 g1 r1 h1 => ?_
  split at h1
  · rename_i hl
    exact ⟨by rw [List.append_nil, r1.length]; exact hl, W1, st1, ds, a1.abs, by rw [List.append_nil]; exact r1, OutG.noσ (OutG.trunc a1.abs h1)⟩
  · exact False.elim h1
theorem me_callP (D : Df X T k x np g) (hr : Room j X.A) (hk : k ≤ j) (tk : Takes X Wx) (hg : Gl X x) (ha : MA X T Wx (e :: es) ma) (hdb : (x == ("__debug__" : PySem.Str)) = false := by decide)
    (he : starEach (e :: es) X.env = (false, eval e X.env) :: starEach es X.env := by rfl) (hpl : (backTo pos (starEach es X.env)).any (·.1) = false := by rfl) :
    ME X T Wx (.Call (.Name x p) (e :: es) [] pos) (xCallP np g ma) := by
  obtain ⟨f, fd, ps, F, hm, hkp, hb, hps⟩ := D.ex
  refine PE.imp (pe_callSD F (hr.mono hk) hg hm hkp hb (fun σ => passAt tk σ) ha hdb he hpl) fun σ H Q ⟨W, st, σd, A, h⟩ => ?_
  refine step A h fun W1 st1 H1 ds vs a1 g1 r1 h1 => ?_
  split at h1
  · rename_i hl
    refine ⟨by rw [List.append_nil, r1.length]; exact hl.1, W1.out st1, [], ds, a1.abs.outW, ?_, OutG.noσ (OutG.runP a1.abs h1)⟩
    rw [List.append_nil]
    exact Reps.un (n := 0) (fun a q => out_liv.mp q) (fun l a q => absurd q (Nat.not_lt_zero _)) (by rw [← pureL_under]; exact hl.2) r1
  · exact False.elim h1
end
end Mi
end
section
set_option Elab.async false
set_option linter.all false
set_option maxRecDepth 100000
set_option maxHeartbeats 2000000
set_option autoImplicit false
namespace Mi
open PySem PySem.Spec PyProof.Rows L2
def veBm : List Value := [.type "ValueError", .type "Exception", .type "BaseException", .type "object"]
/-- what the text says of such a class -/
structure SupC (prog : Program) (K : PySem.W.Frag) (C : Addr) (fI : Addr) (ps : List PySem.Str) (body : List Stmt) (scope : Scope) : Prop where
  ex : ∃ (oc : Value) (od : Option Addr) (osl : Array (Option Value)) (qual : PySem.Str) (params : Arguments) (dV kV doc pm : Value) (an : Option Addr) (cda : Addr) (ct : Value) (cc : Addr) (ccl : Value) (cdd : Option Addr) (vs : Array Value) (ccs : Array (Option Value)) (file : PySem.Str) (tf : Tok) (cl : Value) (cld : Option Addr) (csl : Array (Option Value)) (cdD : ClassData) (ar : Arg),
    K.lookup fI = some ⟨oc, od, .func (PySem.W.ksFn "__init__" qual params body scope dV kV doc pm an (.ref cda) ct cc), osl⟩ ∧ PySem.W.codeIn K (.ref cda) qual = true ∧
    K.lookup cda = some ⟨ccl, cdd, .fields vs, ccs⟩ ∧ vs[2]? = some (.str file tf) ∧ ((prog.main.file : PySem.Str) == file) = true ∧
    K.lookup cc = some ⟨cl, cld, .cell (some (.ref C)), csl⟩ ∧ PySem.W.clsIn K C = some cdD ∧
    (params.posonlyargs ++ params.args).head? = some ar ∧ ar.arg = "self" ∧
    (∀ (us : List Value), us.length = ps.length → bindArgs (PySem.W.ksFn "__init__" qual params body scope dV kV doc pm an (.ref cda) ct cc) ⟨us, []⟩ = pure (ps.zip us)) ∧
    PySem.W.ks_superIn K C C "__init__" = some (some (.builtin "ValueError.__init__"))
  iC : PySem.W.findIn K (.ref C) "__init__" = some (some (.ref fI))
  tI : PySem.W.typeIn K (.ref fI) = some (.type "function")
  o : OexC K C
  sub : PySem.W.mroIn K C (.ref C) = some true
  ve : PySem.W.subIn K (.ref C) (.type "ValueError") = some true
  st : PySem.W.nsIn K cStatics "thirdparty.any" = some none
  ini : PySem.W.excInitIn K C veBm "ValueError.__new__" = true
  nd : ps.Nodup
  hk : scope.kind = .function
  co : scope.isCoroutine = false
  gen : scope.isGenerator = false
  ks : scope.names.lookup ("super" : PySem.Str) = some .globalImplicit
  kc : scope.names.lookup ("__class__" : PySem.Str) = some .free
  nocell : ∀ x ∈ scope.names, x.2 ≠ .cell
  par : ∀ x ∈ ps, scope.names.lookup x = some .local
section
open PySem.W PySem.Calls
variable {prog : Program} {w : World} {A : Around} {E : Value → Shared → Prop}
/-- super().__init__(text) of the exception x, its object told anew -/
theorem run_mw {hp : Heap} {g : Array GenState} {d : Drawn} {t : Nat} {os : OsState} {u x C t0 : Addr} {K : Frag} {rest : List Value} {Q : Value → Shared → Prop} (X : K.In hp) (q : excInitIn K C veBm "ValueError.__new__" = true)
    (hu : hp.get? u = some (kxs_mw "ValueError.__init__" x)) (he : hp.get? x = some (excObj C t0 none .none)) (hz : rest.length ≤ sizeLine)
    (fin : ∀ h', (∀ b o, b ≠ x → hp.get? b = some o → h'.get? b = some o) → h'.get? x = some (excObj C hp.objs.size none .none) → Q .none ⟨h', g, d, t, os⟩) :
    wpAny (model prog w) A (call (.ref u) rest) Q E ⟨hp, g, d, t, os⟩ := by
  obtain ⟨nm, N', qn, bs, bm, hdct, sn, sub, ab, col, dd, k0, k1, k2, k3, k5, hC, hT⟩ := excInit_of X q
  have FB := F.excBase_ValueError
  refine wpAny_call (codeAny_of_tree ?_)
  show wpAny _ A.in1 (callAny (.ref u) ⟨rest, []⟩) _ _ _
  simp only [callAny]
  refine wpAny_bind (wpAny_load hu ?_)
  simp only [kxs_mw, show (Value.type "method-wrapper" == Value.type "method" || Value.type "method-wrapper" == Value.type "builtin_function_or_method" || Value.type "method-wrapper" == Value.type "method-wrapper") = true by decide, if_true]
  refine KFB.if_so (by decide) ?_
  refine wpAny_bind (check_bound_init FB.toExcCallFacts hC he rfl ?_)
  refine wpAny_bind (wpAny_pure (wpAny_pure ?_))
  refine ⟨plainId_quiet FB.init.plain _, codeAny_builtin FB.initEntry ?_⟩
  exact exc_init_tree (cls := .ref C) (t0 := t0) (dv := none) (c2 := .none) (c3 := .none) (b4 := .bool false) he hz fun h' k e _ => fin h' k e
end
section
open PySem.W PySem.Calls
variable {X : Cx} {pins : List (Addr × Obj)} {σ : L2.St} {H : Hp} {s : Shared}
/-- the first statement of such an __init__ -/
theorem sup_first {K : Frag} {prog : Program} {w : World} {A : Around} {E : Value → Shared → Prop} {base : Heap} {mg : PySem.Str → Option Value} {hp : Heap} {g : Array GenState} {d : Drawn} {tk : Nat} {os : OsState} {C fI x t0 L cc cda : Addr} {body : List Stmt} {qual : PySem.Str} {scope : Scope} {fd : FuncData} {ar : Arg} {vs : Array Value} {file : PySem.Str} {tf : Tok} {oc ccl cl : Value} {od cdd cld : Option Addr} {osl ccs csl : Array (Option Value)} {cdD : ClassData} {m : PySem.Str → Option Value}
    {txt : PySem.Str} {j : Nat} {p0 p1 p2 p3 p4 p5 : Pos} {Q : Flow → Shared → Prop} (M : Mod K mg base) (X : K.In hp) (keep : ∀ b o, base.get? b = some o → hp.get? b = some o) (hms : mg "super" = none)
    (hf : K.lookup fI = some ⟨oc, od, .func fd, osl⟩) (hpar : (fd.params.posonlyargs ++ fd.params.args).head? = some ar) (hL : hp.Ns L m) (hv : m ar.arg = some (.ref x)) (I : hp.get? x = some (excObj C t0 none .none))
    (hcode : K.lookup cda = some ⟨ccl, cdd, .fields vs, ccs⟩) (hvs : vs[2]? = some (.str file tf)) (hfile : ((prog.main.file : PySem.Str) == file) = true)
    (hcell : K.lookup cc = some ⟨cl, cld, .cell (some (.ref C)), csl⟩) (hD : clsIn K C = some cdD) (hsub : mroIn K C (.ref C) = some true)
    (hks : scope.names.lookup ("super" : PySem.Str) = some .globalImplicit) (hkc : scope.names.lookup ("__class__" : PySem.Str) = some .free) (hka : scope.names.lookup ar.arg = some .local) (hk : scope.kind = .function)
    (htop : (prog.main.scope.names.lookup ("super" : PySem.Str)).isSome = false) (ho : nsIn K cStatics "thirdparty.any" = some none) (hm : ks_superIn K C C "__init__" = some (some (.builtin "ValueError.__init__"))) (hve : subIn K (.ref C) (.type "ValueError") = some true)
    (q : excInitIn K C veBm "ValueError.__new__" = true) {pl : Sem Bool}
    (hev : eval (.Call (.Attribute (.Call (.Name "super" p0) [] [] p1) "__init__" p2) [.Constant (.str txt) j p3] [] p4) (ksEnv qual scope L fI (.ref cda) cc) = (do
      let ov ← attributeBase (.Call (.Name "super" p0) [] [] p1) "__init__" (ksEnv qual scope L fI (.ref cda) cc) (eval (.Call (.Name "super" p0) [] [] p1) (ksEnv qual scope L fI (.ref cda) cc))
      standAt p2.atName
      let (f, first) ← holding [ov] (getMethod ov "__init__" pl)
      callWith p4 f first (backTo p4 (starEach [.Constant (.str txt) j p3] (ksEnv qual scope L fI (.ref cda) cc))) []))
    (hsw : swapsWith (.Call (.Attribute (.Call (.Name "super" p0) [] [] p1) "__init__" p2) [.Constant (.str txt) j p3] [] p4) none p5.line (ksEnv qual scope L fI (.ref cda) cc) = pure false)
    (fin : ∀ h' tk' t1, (∀ b o, b ≠ x → hp.get? b = some o → h'.get? b = some o) → h'.get? x = some (excObj C t1 none .none) → Q .next ⟨h', g, d, tk', os⟩) :
    _root_.PySem.wpAt (model prog w) A (.func body (ksEnv qual scope L fI (.ref cda) cc)) (exec (.Expr (.Call (.Attribute (.Call (.Name "super" p0) [] [] p1) "__init__" p2) [.Constant (.str txt) j p3] [] p4) p5) (ksEnv qual scope L fI (.ref cda) cc)) Q E ⟨hp, g, d, tk, os⟩ := by
  obtain ⟨mb, hb1, hb2⟩ := M.blt
  obtain ⟨oD, hD1, hD2⟩ : ∃ oD, hp.get? C = some oD ∧ oD.data = .cls cdD := by
    unfold clsIn at hD
    split at hD
    · rename_i c d cd' sl ho
      cases hD
      exact ⟨_, X _ _ ho, rfl⟩
    · cases hD
  have hxC : x ≠ C := fun z => by
    rw [z, hD1] at I
    have z2 := Option.some.inj I
    subst z2
    cases hD2
  have hint : interactive (ksEnv qual scope L fI (.ref cda) cc) = false := by
    show (scope.kind == .module && _) = false
    rw [hk]; rfl
  refine ks_wpAt_Expr_any (ks_wpAt_MethodCall ?_ hev) hint hsw
  refine ks_wpAt_super_base (env := ksEnv qual scope L fI (.ref cda) cc) hks hkc (by decide) rfl (X _ _ hf) rfl hpar rfl (X _ _ hcode) rfl hvs hfile htop ?_
  refine ks_loadName_global hk hks (loadGlobal_builtin (env := ksEnv qual scope L fI (.ref cda) cc) (M.glob.keeps keep) hms (hb1.keeps keep) ((hb2 _ (by decide)).trans (by decide +kernel)) ⟨rfl, ?_⟩)
  refine wpAny_loadName_free hk hkc rfl ⟨_, X _ _ hcell, rfl⟩ ?_
  refine wpAny_loadName_local hk hka hL hv ?_
  refine ks_wpAny_isType_cls hD1 hD2 ⟨rfl, ?_⟩
  refine ks_wpAny_call_super hD1 hD2 I rfl (fun c e => by cases e) (looks_mroIn X hsub) (fun h1 e1 k1 => ?_)
  have X1 : K.In h1 := X.keeps k1
  have I1 := k1 _ _ I
  have IA : InstAt h1 x (excObj C t0 none .none) C none := ⟨I1, rfl, rfl, trivial⟩
  have hI : Looks (model prog w) h1 (isInstance (.ref x) (.type "ValueError")) true := IA.type.andThen (looks_subIn X1 hve)
  unfold ks_superIn at hm
  rw [hD] at hm
  refine kxs_getMethod kxs_ValueError e1 (looks_opaque X1 ho) (l₀ := cdD.mro) ?_ rfl X1 hm hI hxC (by decide) ?_
  · exact fun A Q E s k q => wpAny_bind ((looks_clsIn X1 hD) A _ E s k (wpAny_pure q))
  · have hmw : (h1.push (kxs_mw "ValueError.__init__" x)).get? h1.objs.size = some (kxs_mw "ValueError.__init__" x) := Heap.get?_push_at rfl rfl
    have k2 : ∀ b o, h1.get? b = some o → (h1.push (kxs_mw "ValueError.__init__" x)).get? b = some o := fun b o e => Heap.get?_push_of_some _ e
    show wpAny _ _ (callWith p4 (.ref h1.objs.size) [] _ []) _ _ _
    refine kxs_callWith (i := "ValueError.__init__") (x := x) rfl ?_
    refine evalArgs_plain (Calls.spliced_cons (Calls.Constant_str (k := j) (pos := p3) (Calls.spliced_nil ?_)))
    refine ⟨hmw, ?_⟩
    refine run_mw (X1.keeps k2) q hmw (k2 _ _ I1) (by rw [sizeLine_eq]; show 1 ≤ 16777216; decide) fun h' k3 e3 => ?_
    exact fin h' _ _ (fun b o hb e => k3 b o hb (k2 _ _ (k1 _ _ e))) e3
/-- the shape of the first statement, at its places -/
structure SupE (body : List Stmt) (rest : List Stmt) (scope : Scope) : Prop where
  ex : ∃ (p0 p1 p2 p3 p4 p5 : Pos) (txt : PySem.Str) (j : Nat), body = .Expr (.Call (.Attribute (.Call (.Name "super" p0) [] [] p1) "__init__" p2) [.Constant (.str txt) j p3] [] p4) p5 :: rest ∧
    ∀ (qual : PySem.Str) (L fI cda cc : Addr), (∃ pl : Sem Bool, eval (.Call (.Attribute (.Call (.Name "super" p0) [] [] p1) "__init__" p2) [.Constant (.str txt) j p3] [] p4) (ksEnv qual scope L fI (.ref cda) cc) = (do
      let ov ← attributeBase (.Call (.Name "super" p0) [] [] p1) "__init__" (ksEnv qual scope L fI (.ref cda) cc) (eval (.Call (.Name "super" p0) [] [] p1) (ksEnv qual scope L fI (.ref cda) cc))
      standAt p2.atName
      let (f, first) ← holding [ov] (getMethod ov "__init__" pl)
      callWith p4 f first (backTo p4 (starEach [.Constant (.str txt) j p3] (ksEnv qual scope L fI (.ref cda) cc))) [])) ∧
    swapsWith (.Call (.Attribute (.Call (.Name "super" p0) [] [] p1) "__init__" p2) [.Constant (.str txt) j p3] [] p4) none p5.line (ksEnv qual scope L fI (.ref cda) cc) = pure false
variable {x : PySem.Str} {p pos : Pos} {C fI : Addr} {ps : List PySem.Str} {body rest : List Stmt} {scope : Scope}
/-- the __init__ run up to its second statement -/
theorem sup_run {K : Frag} {prog : Program} {w : World} {A : Around} {base : Heap} {mg : PySem.Str → Option Value} {hp : Heap} {g : Array GenState} {d : Drawn} {tk : Nat} {os : OsState} {e t0 : Addr} {us : List Value} {R : Result → Shared → Prop} (S : SupC prog K C fI ps body scope) (B : SupE body rest scope)
    (M : Mod K mg base) (keep : ∀ b o, base.get? b = some o → hp.get? b = some o) (hms : mg "super" = none) (htop : (prog.main.scope.names.lookup ("super" : PySem.Str)).isSome = false) (hd : A.depth < recursionLimit)
    (I : hp.get? e = some (excObj C t0 none .none)) (hus : us.length + 1 = ps.length) (h0 : ps[0]? = some ("self" : PySem.Str))
    (fin : ∀ (env : PySem.Env) (L : Addr) (h' : Heap) (tk' : Nat) (t1 : Addr), env.scope = scope → env.locals = L → h'.Ns L (fun y => (ps.zip (.ref e :: us)).reverse.lookup y) → (∀ b o, b ≠ e → hp.get? b = some o → h'.get? b = some o) → h'.get? e = some (excObj C t1 none .none) →
      wpAny (model prog w) (A.deeper env) (execs rest env) (fun f s' => R (.ok (.ret (match f with | .ret v => v | _ => .none))) s') (fun er s' => wpAny (model prog w) (A.deeper env) (leaving env er) (fun _ s'' => R (.error er) s'') (fun e' s'' => R (.error e') s'') s') ⟨h', g, d, tk', os⟩) :
    codeAny (model prog w) A (.call (.ref fI) ⟨.ref e :: us, []⟩) R ⟨hp, g, d, tk, os⟩ := by
  obtain ⟨oc, od, osl, qual, params, dV, kV, doc, pm, an, cda, ct, cc, ccl, cdd, vs, ccs, file, tf, cl, cld, csl, cdD, ar, lk, hcd, hcode, hvs, hfile, hcell, hD, hpar, har, hbind, hsi⟩ := S.ex
  have X : K.In hp := M.kin.keeps keep
  obtain ⟨p0, p1, p2, p3, p4, p5, txt, j, rfl, hev⟩ := B.ex
  refine ks_codeAny_call_defAt (fd := ksFn "__init__" qual params _ scope dV kV doc pm an (.ref cda) ct cc) (binds := ps.zip (.ref e :: us)) hd (X _ _ lk) rfl (M.nolimit.keeps keep) (codeRec_of X hcd) rfl ?_ S.nocell (fun y hy => S.par _ (List.of_mem_zip hy).1) (fun h₀ hns hk => ?_) S.co S.gen S.hk
  · exact BindsTo.of_eq (hbind _ (by simpa using hus))
  · obtain ⟨⟨pl, hev1⟩, hsw⟩ := hev qual hp.objs.size fI cda cc
    have hself : (ps.zip (Value.ref e :: us)).reverse.lookup ar.arg = some (.ref e) := by
      rw [har]
      exact NdefX.zip_look S.nd h0 rfl
    refine ks_wpAt_execs_cons (sup_first (K := K) M (X.keeps hk) (fun b o z => hk _ _ (keep _ _ z)) hms lk hpar hns hself (hk _ _ I) hcode hvs hfile hcell hD S.sub S.ks S.kc ?_ S.hk htop S.st hsi S.ve S.ini hev1 hsw fun h' tk' t1 k1 e1 => ?_)
    · rw [har]; exact S.par _ (List.mem_of_getElem? h0)
    · have ne : hp.objs.size ≠ e := Nat.ne_of_gt (Heap.lt_size I)
      refine wpAt_of_wpAny (fin (ksEnv qual scope hp.objs.size fI (.ref cda) cc) hp.objs.size h' tk' t1 rfl rfl (hns.at fun o z => k1 _ _ ne z) (fun b o hb z => k1 b o hb (hk _ _ z)) e1)
/-- raise C() -/
theorem pmk_sup0 (S : SupC X.prog X.K C fI ["self"] body scope) (B : SupE body [] scope) (hr : Room 1 X.A) (hg : Gl X x) (hm : X.mg x = some (.ref C)) (hms : X.mg "super" = none) (htop : (X.prog.main.scope.names.lookup ("super" : PySem.Str)).isSome = false)
    (hdb : (x == ("__debug__" : PySem.Str)) = false := by decide) : PMk X (.Call (.Name x p) [] [] pos) (fun σ H Q => Q (.ref C) none H) := by
  intro pins s σ H Q I h
  obtain ⟨nm, q, N, bs, bm, sn, sub, ab, col, dd, k0, k1, k2, k3, k5, hC, hbm⟩ := S.o.cls
  refine wpAny_Call_Name_kw (ld_glob I hg hm ?_ hdb)
  refine PySem.W.callWith_K0 I.kIn S.o.kC ?_
  obtain ⟨hp, g, dr, tk, os⟩ := s
  have kk : ∀ b o, hp.get? b = some o → ((hp.push (PySem.W.kdv_tup [])).push (PySem.HandSPX.excO C hp.objs.size)).get? b = some o := fun b o e => Heap.get?_push_of_some _ (Heap.get?_push_of_some _ e)
  have hget : ((hp.push (PySem.W.kdv_tup [])).push (PySem.HandSPX.excO C hp.objs.size)).get? (hp.objs.size + 1) = some (PySem.HandSPX.excO C hp.objs.size) := by heap_get
  have hdep : (X.A.under (.builtin "type.__call__" ⟨.ref C :: [], []⟩)).depth < recursionLimit := (hr.make C [] []).depth
  have hn0 : hp.get? (hp.objs.size + 1) = none := by
    cases z : hp.get? (hp.objs.size + 1) with
    | none => rfl
    | some o => exact absurd (Heap.lt_size z) (Nat.not_lt.mpr (Nat.le_succ _))
  refine wpAny_call (PySem.HandSPX.call_own F.excBase_ValueError (fun Y => PySem.HandSPX.refsVE_contains Y bm hbm) (I.kIn _ _ hC) (PySem.W.looks_findIn I.kIn S.iC) (fun self => PySem.W.bind_fn I.kIn self S.tI) (by rw [sizeLine_eq]; show 0 ≤ 16777216; decide) ?_)
  refine sup_run (base := X.base) (mg := X.mg) S B I.ok.mod (fun b o e => kk _ _ (I.bk b o e)) hms htop hdep hget rfl rfl fun env L h' tk' t1 hs hl hns k e => ?_
  refine wpAny_execs_nil ?_
  refine ⟨rfl, ?_⟩
  refine ⟨hp.objs.size + 1, _, _, ⟨hp, g, dr, tk, os⟩, H, .ref C, none, rfl, I, fun b o z => k b o (fun z2 => by rw [z2] at z; rw [show hp.get? (hp.objs.size + 1) = none from hn0] at z; cases z) (kk b o z), hn0, e, ⟨rfl, rfl⟩, rfl, rfl, I.hok.fresh (Nat.le_succ _), rfl, I.bare, raises_own S.o.exC S.o.tyC, h⟩
end
end Mi
end
section
set_option Elab.async false
set_option linter.all false
set_option maxRecDepth 100000
set_option maxHeartbeats 2000000
set_option autoImplicit false
namespace Mi
open PySem L2
section
variable {X : Cx} {T : Tb} {Wx : WX}
theorem ms_raise0 {c : Nat} {fI : Addr} {body : List Stmt} {scope : Scope} {x : PySem.Str} {p pos pos2 : Pos} (hc : X.calm = true) (tk : Takes X Wx) (S : SupC X.prog X.K (T.ca c) fI ["self"] body scope) (B : SupE body [] scope) (hr : Room 1 X.A) (hg : Gl X x) (hm : X.mg x = some (.ref (T.ca c))) (hms : X.mg "super" = none) (htop : (X.prog.main.scope.names.lookup ("super" : PySem.Str)).isSome = false)
    (hdb : (x == ("__debug__" : PySem.Str)) = false := by decide) : MS X T Wx (.Raise (some (.Call (.Name x p) [] [] pos)) none pos2) (sRaise c [] xNil) := by
  refine PS.imp (ps_raise hc tk (pmk_sup0 S B hr hg hm hms htop hdb)) fun E σ H ⟨W, st, σd, A, h⟩ => ?_
  simp only [sRaise, xNil] at h
  exact h W H σ (.ref (T.ca c)) none (Grow.refl _ _ _) A ⟨rfl, .inl ⟨rfl, rfl⟩⟩
/-- a pinned slot more -/
def Tb.add (T : Tb) (i : Nat) (a : Addr) : Tb := { T with pin := ⟨i, a, fun _ _ _ => True, fun _ _ => trivial⟩ :: T.pin }
theorem SlotsOk.hold {W : Wd} {st : Sto} {H : Hp} {σd : Env} {σ : L2.St} {i : Nat} {a : Addr} (s : SlotsOk T W st H σd σ) (hf : T.free i) (hi : i < σd.length) : SlotsOk (T.add i a) W st H (σd.set i Option.none) (σ.set i (some (.ref a))) := by
  refine ⟨by simp [s.len], fun j e h => ?_, fun p hp => ?_⟩
  · by_cases hj : i = j
    · subst hj
      rw [List.getElem?_set_self hi] at h; cases h
    · rw [List.getElem?_set_ne hj] at h
      obtain ⟨w, q, b⟩ := s.get j e h
      exact ⟨w, by rw [List.getElem?_set_ne hj]; exact q, b⟩
  · rcases List.mem_cons.mp hp with rfl | hp
    · exact ⟨List.getElem?_set_self (by rw [s.len]; exact hi), trivial⟩
    · exact ⟨by rw [List.getElem?_set_ne (Ne.symm (hf.ne hp))]; exact (s.pin p hp).1, (s.pin p hp).2⟩
theorem SlotsOk.let {W : Wd} {st : Sto} {H : Hp} {σd : Env} {σ : L2.St} {i : Nat} {a : Addr} (s : SlotsOk (T.add i a) W st H σd σ) (hf : T.free i) : SlotsOk T W st H (σd.set i Option.none) (σ.set i Option.none) := by
  have s' : SlotsOk T W st H σd σ := ⟨s.len, s.get, fun p hp => s.pin p (List.mem_cons_of_mem _ hp)⟩
  exact s'.none hf
/-- the classes that may come, which of them the clause takes -/
structure CatOk (K : PySem.W.Frag) (T : Ts) (cs : List Nat) (cat : Nat → Bool) (cv : Value) : Prop where
  ok : ∀ c ∈ cs, PySem.W.exmOne K (.ref (T.ca c)) cv = some (cat c)
theorem OutSt.clause {E : Ends} {W : Wd} {st : Sto} {H : Hp} {i : Nat} {a : Addr} {o : OutS} (hf : T.free i) (h : OutSt T Wx E W st H (match o with
      | .nx σ2 st2 => .nx (σ2.set i none) st2
      | .bk σ2 st2 => .bk (σ2.set i none) st2
      | .ct σ2 st2 => .ct (σ2.set i none) st2
      | .rt d st2 => .rt d st2
      | _ => .bad)) : OutSt (T.add i a) WxF { nx := fun σ' H' => E.nx (σ'.set i none) H', rt := E.rt, bk := fun σ' H' => E.bk (σ'.set i none) H', ct := fun σ' H' => E.ct (σ'.set i none) H' } W st H o := by
  cases o with
  | nx σ2 s => exact fun W' H' σ' g A => h W' H' _ g ⟨A.abs, A.slots.let hf⟩
  | rt d s => exact h
  | bk σ2 s => exact fun W' H' σ' g A => h W' H' _ g ⟨A.abs, A.slots.let hf⟩
  | ct σ2 s => exact fun W' H' σ' g A => h W' H' _ g ⟨A.abs, A.slots.let hf⟩
  | exc e σ s => exact False.elim h
  | bad => exact False.elim h
/-- what the text says: the classes that may come, which of them are cv's -/
structure IsEOk (K : PySem.W.Frag) (T : Ts) (cs : List Nat) (tab : Nat → Bool) (cv : Value) : Prop where
  ok : ∀ c ∈ cs, PySem.W.kitOne K (.ref (T.ca c)) cv = some (tab c)
  ex : ∀ c ∈ cs, ExcC K (T.ca c)
end
end Mi
end
section
set_option Elab.async false
set_option linter.all false
set_option maxRecDepth 100000
set_option autoImplicit false
set_option maxHeartbeats 2000000
namespace Mi
open PySem PySem.W PyProof.Rows PySem.Calls
section
variable {prog : Program} {w : World} {A : Around} {E : Value → Shared → Prop} {s : Shared}
abbrev KeepsH (h h' : Heap) : Prop := ∀ b o, h.get? b = some o → h'.get? b = some o
/-- sorted(a list or a tuple) of data that compare -/
theorem sorted_src {l : Addr} {ty : String} {o : Obj} {vs : List Value} {n : Nat} {bs : List D} {R : Value → D → Prop} {Q : Value → Shared → Prop} (hT : ty = "list" ∨ ty = "tuple") (ho : s.heap.get? l = some o) (hc : o.cls = .type ty) (hd : o.data = .seq vs.toArray n)
    (hL : vs.length ≤ sizeLine) (e : EachIs R vs bs) (er : EachIs (fun v b => ∃ as, Reads s.heap v (toPy b) as) vs bs) (hal : AllAlike (bs.map toPy)) (hk : Sortable (bs.map toPy)) (hu : ∀ b, b ∈ bs → A.units + 2 + (toPy b).depth < cLine)
    (fin : ∀ (out : List Value) (h1 h' : Heap) (d : Addr), out.length = bs.length → EachIs R out (bs.mergeSort (dataLe false toPy)) → KeepsH s.heap h1 → KeepsH h1 h' → h1.objs.size ≤ d → (∃ k, h'.get? d = some (seqObj "list" out.toArray k)) → Q (.ref d) { s with heap := h' }) :
    wpAny (model prog w) A (call (.builtin "sorted") [.ref l]) Q E s := by
  refine Calls.call_function_entry kind_sorted plain_sorted entry_sorted (args_sorted1 _) ?_
  unfold Builtin.«sorted»
  refine wpAny_bind (wpAny_pure ?_)
  refine wpAny_bind (wpAny_collect_seq l hT ho hc hd (fun h1 k1 => ?_) (by rw [List.size_toArray]; exact hL))
  have ev : vs.toArray.toList = vs := by simp
  rw [ev]
  refine wpAny_bind (wpAny_newList ?_ hL)
  have at2 : (h1.push (seqObj "list" vs.toArray 0)).get? h1.objs.size = some (seqObj "list" vs.toArray 0) := Heap.get?_push_size _ rfl
  have k2 : KeepsH h1 (h1.push (seqObj "list" vs.toArray 0)) := fun b o q => Heap.get?_push_of_some _ q
  have old : ∀ b o, s.heap.get? b = some o → b ≠ h1.objs.size := fun b o q => Nat.ne_of_lt (Heap.lt_size (k1 b o q))
  have er2 : EachIs (fun v b => ∃ as, Reads (sortingHeap (h1.push (seqObj "list" vs.toArray 0)) h1.objs.size vs) v (toPy b) as) vs bs :=
    er.mono fun _ _ ⟨as, r⟩ => ⟨as, PyProof.Rows.Reads.keeps (fun b o q => sortingHeap_old (old b o q) (k2 b o (k1 b o q))) r⟩
  have S : SortsAt prog w A.in1.in1 { s with heap := sortingHeap (h1.push (seqObj "list" vs.toArray 0)) h1.objs.size vs } (dataKind (sortingHeap (h1.push (seqObj "list" vs.toArray 0)) h1.objs.size vs) (bs.map toPy)) vs :=
    SortsAt.data (s := { s with heap := sortingHeap (h1.push (seqObj "list" vs.toArray 0)) h1.objs.size vs }) (each_map (R := fun v d => ∃ as, Reads (sortingHeap (h1.push (seqObj "list" vs.toArray 0)) h1.objs.size vs) v d as) toPy er2) hal hk fun d hd => by
      obtain ⟨b, hb, rfl⟩ := List.mem_map.mp hd
      exact hu b hb
  show wpAny _ _ _ _ _ { s with heap := h1.push (seqObj "list" vs.toArray 0) }
  refine wpAny_bind (wpAny_holding (wpAny_call_entry slot_list_sort ⟨_, at2, rfl⟩ entry_list_sort (list_sort_vals (s := { s with heap := h1.push (seqObj "list" vs.toArray 0) }) at2 S hL ⟨_, rfl, ?_⟩) (args_list_sort _)))
  refine wpAny_pure ⟨_, rfl, ?_⟩
  refine fin _ h1 _ _ ?_ (sortVals_data false e er2 hal) k1 (fun b o q => ?_) (Nat.le_refl _) (sortedHeap_at at2)
  · rw [sortVals_length false rfl]; exact e.length
  · have lt1 : b < h1.objs.size := Heap.lt_size q
    exact (sortedHeap_old (Nat.ne_of_lt lt1) (by rw [size_push']; exact Nat.lt_succ_of_lt lt1)).trans (k2 b o q)
end
open L2
section
variable {T : Ts} {W : Wd} {st : Sto} {H : Hp}
def Rv (T : Ts) (W : Wd) (st : Sto) (H : Hp) (v : Value) (d : D) : Prop := ∃ x, Rep T W st H d x ∧ RelV x v
theorem each_of : ∀ {ds : List D} {vs : List V} {us : List Value}, Reps T W st H ds vs → Vals vs us → EachIs (Rv T W st H) us ds
  | _, _, _, .nil, .nil => .nil
  | _, _, _, .cons h r, .cons k q => .cons ⟨_, h, k⟩ (each_of r q)
theorem of_each : ∀ {ds : List D} {us : List Value}, EachIs (Rv T W st H) us ds → ∃ vs, Reps T W st H ds vs ∧ Vals vs us
  | _, _, .nil => ⟨[], .nil, .nil⟩
  | _, _, .cons ⟨x, h, k⟩ r => by
    obtain ⟨vs, r1, r2⟩ := of_each r
    exact ⟨x :: vs, .cons h r1, .cons k r2⟩
end
theorem sortD_py {ds : List D} (h : Mi.sortable ds = true) : ds.mergeSort (dataLe false toPy) = sortD ds := by
  have o := sortable_ord h
  have f := sortable_flat h
  have key := List.map_mergeSort (f := id) (l := ds) (r := dataLe false toPy) (s := fun a b => !b.lt a) fun a ha b hb => by
    rw [dataLe_eq]
    show (!dataLt (toPy b) (toPy a)) = !b.lt a
    rw [dataLt_ord 20 b a (o b hb a ha) (f b hb) (f a ha)]
  simpa [sortD] using key
theorem alike_all {ds : List D} (h : Mi.sortable ds = true) : AllAlike (ds.map toPy) := by
  intro x hx y hy
  obtain ⟨a, ha, rfl⟩ := List.mem_map.mp hx
  obtain ⟨b, hb, rfl⟩ := List.mem_map.mp hy
  exact alike_ord 20 a b (sortable_ord h a ha b hb)
theorem sortable_py {ds : List D} (h : Mi.sortable ds = true) : PySem.W.Sortable (ds.map toPy) := by
  unfold Mi.sortable at h
  simp only [Bool.and_eq_true, Bool.or_eq_true, List.all_eq_true] at h
  rcases h.2 with (q | q) | q
  · refine .inr fun x hx => ?_
    obtain ⟨a, ha, rfl⟩ := List.mem_map.mp hx
    have := q a ha
    cases a <;> simp [D.isIntD, toPy] at this ⊢
  · refine .inr fun x hx => ?_
    obtain ⟨a, ha, rfl⟩ := List.mem_map.mp hx
    have := q a ha
    cases a <;> simp [D.isStrD, toPy] at this ⊢
  · refine .inl fun x hx => ?_
    obtain ⟨a, ha, rfl⟩ := List.mem_map.mp hx
    have := q a ha
    cases a <;> simp [D.isTupN] at this
    rename_i xs
    cases xs <;> simp [D.isTupN] at this
    simp [toPy, toPyL]
def rSortD (K : PySem.W.Frag) (T : Ts) : List V → Hp → VK → Prop := fun xs H Q => ∃ W st a vs ds, xs = [.ref a] ∧ (SqL K H a vs ∨ SqT K H a vs) ∧ Reps T W st H ds vs ∧ Mi.sortable ds = true ∧ ds.length ≤ szL ∧
  ∀ ws p, H p = none → Reps T W st H (sortD ds) ws → Q (.ref p) (upd H p (.lst ws))
section
variable {X : Cx} {T : Tb} {Wx : WX} {e : Expr} {es : List Expr} {ma : XA} {pos p : Pos}
theorem call_sortD (hu : X.A.units + 64 < cLine) : CallR X (.builtin "sorted") (rSortD X.K T.toTs) := by
  intro pins s σ H xs us Q I r h
  obtain ⟨W, st, a, vs, ds, rfl, hq, rs, hs, hl, q⟩ := h
  obtain ⟨u, rfl, rx⟩ := vals1 r
  cases rx
  have go : ∀ (ty : String) (o : Obj) (its : List Value) (n : Nat), (ty = "list" ∨ ty = "tuple") → s.heap.get? a = some o → o.cls = .type ty → o.data = .seq its.toArray n → Vals vs its →
      wpAny (model X.prog X.w) X.A (call (.builtin "sorted") [.ref a]) (EP X pins σ Q) X.xe s := by
    intro ty o its n hT ho hc hd rv
    have le : its.length = ds.length := by rw [← rv.length, rs.length]
    refine sorted_src hT ho hc hd (by rw [le, ← szL_eq]; exact hl) (each_of rs rv) ?_ (alike_all hs) (sortable_py hs) (fun b hb => ?_) fun out h1 h' d hlen ho' k1 k2 hle ⟨k, hk⟩ => ?_
    · exact ((each_mem (each_of rs rv))).mono fun v b ⟨⟨x, h1, h2⟩, hb⟩ => h1.reads I (sortable_flat hs b hb) h2
    · have := (canLay_of 20 b (sortable_flat hs b hb)).2; omega
    · rw [sortD_py hs] at ho'
      obtain ⟨ws, r1, r2⟩ := of_each ho'
      have I1 : L2.Inv X pins σ H { s with heap := h1 } := I.kept (t' := s.toks) k1
      refine ⟨.ref d, upd H d (.lst ws), I1.laid (t' := s.toks) k2 hle ?_, rfl, q ws d (I1.hok.fresh hle) r1⟩
      refine ⟨?_, out, k, r2, hk⟩
      rw [r1.length, (sortD_perm ds).length_eq, ← szL_eq]; exact hl
  rcases hq with hq | hq
  · obtain ⟨its, rv, pl, hz⟩ := I.list hq
    obtain ⟨o, ho, hc, n, hd⟩ := pl.isList
    exact go "list" o its n (.inl rfl) ho hc hd rv
  · obtain ⟨its, rv, pl, hz⟩ := I.tuple hq
    obtain ⟨o, ho, hc, n, hd⟩ := pl
    exact go "tuple" o its n (.inr rfl) ho hc hd rv
theorem ml_sorted (hu : X.A.units + 64 < cLine) (B : Bl X "sorted" (.builtin "sorted")) (ha : MA X T Wx (e :: es) ma)
    (he : starEach (e :: es) X.env = (false, eval e X.env) :: starEach es X.env := by rfl) (hpl : (backTo pos (starEach es X.env)).any (·.1) = false := by rfl) : ML X T Wx (.Call (.Name "sorted" p) (e :: es) [] pos) (xBL lSorted ma) := by
  refine liftBL (pe_bl' B (call_sortD (T := T) hu) ha he hpl) ?_
  intro W st H ds ys xs Q A r e h
  unfold lSorted at e
  split at e
  · rename_i d0
    obtain ⟨x, rfl, r0⟩ := reps1 r
    split at e
    · cases e
    · simp only [Option.bind_eq_some_iff] at e
      obtain ⟨zs, e1, e2⟩ := e
      split at e2
      · rename_i hs
        cases e2
        obtain ⟨a, vs, rfl, r2, hq⟩ := r0.seq (K := X.K) A e1
        exact ⟨W, st, a, vs, zs, rfl, hq, r2, hs.1, hs.2, fun ws p hp rw => h ws p hp rw⟩
      · cases e2
  · cases e
theorem rgV_rep {W : Wd} {st : Sto} {H : Hp} (a b : Int) : Reps T W st H (rng a (b - a).toNat) (rgV a b) := by
  unfold rng rgV
  generalize List.range (b - a).toNat = l
  induction l with
  | nil => exact .nil
  | cons x l ih => exact .cons (.int _) ih
theorem rgOk_of {i j : Int} (h0 : 0 ≤ i) (h1 : i ≤ szL) (h2 : -4611686018427387904 ≤ j) (h3 : j ≤ szL) : RgOk i j := by
  unfold szL at *
  exact ⟨by omega, by omega, by omega, by omega, by omega⟩
theorem ml_listRg1 {a : Expr} {m : XE} {p2 pos2 : Pos} (hc : X.calm = true) (B : Bl X "list" (.type "list")) (hg : Gl X "range") (hm : X.mg "range" = none) (ha : ME X T Wx a m)
    (n1 : starEach [a] X.env = (false, eval a X.env) :: starEach [] X.env := by rfl) (n2 : starEach [.Call (.Name "range" p2) [a] [] pos2] X.env = (false, eval (.Call (.Name "range" p2) [a] [] pos2) X.env) :: starEach [] X.env := by rfl) :
    ML X T Wx (.Call (.Name "list" p) [.Call (.Name "range" p2) [a] [] pos2] [] pos) (xRgL (xRg1 m)) := by
  refine PE.imp (pe_listRg hc B.g B.m (prg_1 hg hm ha n1) n2) fun σ H Q ⟨W, st, σd, A, h⟩ => ?_
  unfold cL xRgL xRg1 at h
  rw [bind_assoc, bind_assoc] at h
  refine step A h fun W1 st1 H1 d x a1 g1 r1 h1 => ?_
  split at h1
  · rename_i j
    cases r1
    split at h1
    · rename_i hz
      exact ⟨j, rfl, rgOk_of (Int.le_refl _) (by decide) hz.1 hz.2, fun q hq => newL g1 a1.abs (rgV_rep 0 j) h1 q hq⟩
    · exact False.elim h1
  · exact False.elim h1
end
end Mi
end
section
set_option Elab.async false
set_option linter.all false
set_option maxRecDepth 100000
set_option autoImplicit false
set_option maxHeartbeats 2000000
namespace Mi
open PySem PyProof.Rows L2
/-- d[k] = v of a dict that is being made -/
def DSt (H : Hp) (dd : Addr) (k v : V) (H' : Hp) : Prop :=
  (∃ kvs q, k = kV q ∧ H dd = some (.dK kvs) ∧ kvs.length < sizeLine ∧ H' = upd H dd (.dK (L2.putK kvs q v))) ∨
  (∃ kvs q b, k = .ref b ∧ H b = some (.tup (q.map kV)) ∧ H dd = some (.dT kvs) ∧ kvs.length < sizeLine ∧ H' = upd H dd (.dT (L2.putK kvs q v))) ∨
  ∃ q b, k = .ref b ∧ H b = some (.tup (q.map kV)) ∧ H dd = some (.dK []) ∧ H' = upd H dd (.dT [(q, v)])
section
variable {X : Cx} {pins : List (Addr × Obj)} {σ : L2.St} {H H' : Hp} {s : Shared} {E : Value → Shared → Prop} {dd : Addr} {k v : V} {u r : Value} {Q : Unit → Shared → Prop}
end
section
variable {T : Tb} {dd : Addr} {W1 W W2 : Wd} {st1 st st2 : Sto} {H1 H H2 : Hp} {σ0 : L2.St} {σd0 : Env} {acc : List (D × D)}
/-- at dd stands the dict acc -/
def DcAt (T : Ts) (W : Wd) (st : Sto) (H : Hp) (dd : Addr) (acc : List (D × D)) : Prop :=
  (∃ vs, H dd = some (.dK vs) ∧ RepK T W st H acc vs) ∨ ∃ vs, H dd = some (.dT vs) ∧ RepT T W st H acc vs ∧ vs ≠ []
structure DcS (T : Tb) (dd : Addr) (W1 : Wd) (st1 : Sto) (H1 : Hp) (σ0 : L2.St) (σd0 : Env) (acc : List (D × D)) (W : Wd) (st : Sto) (H : Hp) : Prop where
  gr : Grow W1 st1 H1 W st H
  ab : Abs T (W.add dd) st H
  no : dd ∉ W.fb
  li : DcAt T (W.add dd) st H dd acc
  sl : SlotsOk T (W.add dd) st H σd0 σ0
theorem DcAt.to {W' : Wd} {st' : Sto} {H' : Hp} (t : To W st H W' st' H') (hs : ∀ o, H dd = some o → (∀ ps, o ≠ .tbl ps) → H' dd = some o) (h : DcAt T W st H dd acc) : DcAt T W' st' H' dd acc := by
  rcases h with ⟨vs, e, r⟩ | ⟨vs, e, r, n⟩
  · exact .inl ⟨vs, hs _ e (fun _ z => by cases z), r.to t⟩
  · exact .inr ⟨vs, hs _ e (fun _ z => by cases z), r.to t, n⟩
theorem DcAt.cell (h : DcAt T W st H dd acc) : CellOk T W st H (.dct acc) dd := h.imp id fun ⟨vs, e, r, _⟩ => ⟨vs, e, r⟩
theorem DcS.next (L : DcS T dd W1 st1 H1 σ0 σd0 acc W st H) (g : Grow (W.add dd) st H W2 st2 H2) (A : Abs T W2 st2 H2) : DcS T dd W1 st1 H1 σ0 σd0 acc (W2.sub dd) st2 H2 ∧ To W2 st2 H2 ((W2.sub dd).add dd) st2 H2 := by
  have hm : dd ∈ W2.fb := g.fbs dd List.mem_cons_self
  have t : To W2 st2 H2 ((W2.sub dd).add dd) st2 H2 := To.subAdd hm
  refine ⟨⟨L.gr.trans (g.sub L.no), A.subAdd hm, fun q => (sub_mem.mp q).2 rfl, ?_, (L.sl.to (g.to L.ab)).to t⟩, t⟩
  exact (L.li.to (g.to L.ab) fun o e to => g.keepB e L.ab.noAdd to List.mem_cons_self).to t fun o e _ => e
theorem DcS.start {σ : L2.St} {σd : Env} (a : At T σ W st H σd) (hd : H dd = none) (own : List Nat) (hf : ∀ i ∈ own, T.free i) : DcS T dd W st H (L2.wipe σ own) (wipeV σd own) [] W st (upd H dd (.dK [])) := by
  have nf : dd ∉ W.fb := fun q => by obtain ⟨o, e, _⟩ := a.abs.fbt dd q; rw [hd] at e; cases e
  exact ⟨Grow.updFree hd (Grow.refl _ _ _), a.abs.addFresh hd (fun _ z => by cases z), nf, .inl ⟨[], upd_same, .nil⟩, (a.slots.wipe own hf).to (To.add hd a.abs)⟩
/-- one pair more -/
theorem dc_put {k d : D} {kx vx : V} (A : Abs T W st H) (hD : dd ∈ W.fb) (L : DcAt T W st H dd acc) (rk : Rep T W st H k kx) (rv : Rep T W st H d vx) (hf : keysFit acc k = true) (hl : acc.length < szL) :
    ∃ o', DSt H dd kx vx (upd H dd o') ∧ Abs T W st (upd H dd o') ∧ To W st H W st (upd H dd o') ∧ DcAt T W st (upd H dd o') dd (putK acc k d) := by
  have hl' : acc.length < sizeLine := by rw [← szL_eq]; exact hl
  unfold keysFit at hf
  simp only [Bool.or_eq_true, Bool.and_eq_true] at hf
  rcases hf with ⟨hk, hall⟩ | ⟨hk, hall⟩
  · obtain ⟨q, e1⟩ := keyOf_of hk
    have ey := rk.key e1
    subst ey
    rcases L with ⟨vs, e, r⟩ | ⟨vs, e, r, n⟩
    · have t := To.updFb (o' := .dK (L2.putK vs q vx)) A hD e (fun _ z => by cases z) (fun _ _ z => by cases z)
      exact ⟨_, .inl ⟨vs, q, rfl, e, by rw [r.len]; exact hl', rfl⟩, A.updFb (fun _ z => by cases z) hD e (fun _ z => by cases z) (fun _ _ z => by cases z), t, .inl ⟨_, upd_same, (r.put e1 rv).to t⟩⟩
    · cases r with
      | nil => exact absurd rfl n
      | @cons k0 d0 q0 v0 ds0 vs0 hj _ _ =>
        exfalso
        have z : k0.isKey0 = true := by simp at hall; exact hall.1
        cases k0 <;> simp [D.isKey0] at z <;> simp [Mi.keyT] at hj
  · obtain ⟨q, e1⟩ := keyT_of hk
    obtain ⟨b, ey, eb⟩ := rk.keyT e1
    subst ey
    rcases L with ⟨vs, e, r⟩ | ⟨vs, e, r, n⟩
    · cases r with
      | nil =>
        have t := To.updFb (o' := .dT [(q, vx)]) A hD e (fun _ z => by cases z) (fun _ _ z => by cases z)
        exact ⟨_, .inr (.inr ⟨q, b, rfl, eb, e, rfl⟩), A.updFb (fun _ z => by cases z) hD e (fun _ z => by cases z) (fun _ _ z => by cases z), t, .inr ⟨_, upd_same, .cons e1 (rv.to t) .nil, by simp⟩⟩
      | @cons k0 d0 q0 v0 ds0 vs0 hj _ _ =>
        exfalso
        have z : k0.isKey1 = true := by simp at hall; exact hall.1
        cases k0 <;> simp [D.isKey1] at z <;> simp [keyOf] at hj
    · have t := To.updFb (o' := .dT (L2.putK vs q vx)) A hD e (fun _ z => by cases z) (fun _ _ z => by cases z)
      refine ⟨_, .inr (.inl ⟨vs, q, b, rfl, eb, e, by rw [r.len]; exact hl', rfl⟩), A.updFb (fun _ z => by cases z) hD e (fun _ z => by cases z) (fun _ _ z => by cases z), t, .inr ⟨_, upd_same, (r.put e1 rv).to t, ?_⟩⟩
      intro z
      have := (r.put e1 rv).len
      rw [z] at this
      unfold Mi.putK at this
      split at this
      · simp at this
        have z0 : acc = [] := List.length_eq_zero_iff.mp this.symm
        subst z0
        cases r; exact n rfl
      · simp at this
theorem DcS.push {k d : D} {kx vx : V} (L : DcS T dd W1 st1 H1 σ0 σd0 acc W st H) (hd : H1 dd = none) (rk : Rep T (W.add dd) st H k kx) (rv : Rep T (W.add dd) st H d vx) (hf : keysFit acc k = true) (hl : acc.length < szL) :
    ∃ H', DSt H dd kx vx H' ∧ DcS T dd W1 st1 H1 σ0 σd0 (putK acc k d) W st H' := by
  obtain ⟨o', g, A', t, l'⟩ := dc_put L.ab List.mem_cons_self L.li rk rv hf hl
  exact ⟨_, g, L.gr.updFree hd, A', L.no, l', L.sl.to t⟩
end
end Mi
end
section
set_option Elab.async false
set_option linter.all false
set_option maxRecDepth 100000
set_option autoImplicit false
set_option maxHeartbeats 2000000
namespace Mi
open PySem L2
section
variable {X : Cx} {T : Tb} {Wx : WX} {pos : Pos}
/-- the pairs of a display -/
structure MPs (X : Cx) (T : Tb) (Wx : WX) (pos : Pos) (keys : List (Option Expr)) (values : List Expr) (m : XD) : Prop where
  ex : ∃ trs, PPs X pos keys values trs ∧ ∀ (σ : L2.St) (H : Hp) (Q : List (V × V) → Hp → Prop), lG T (fun W st H ds (ps : List (V × V)) => Reps T W st H (ds.map (·.1)) (ps.map (·.1)) ∧ Reps T W st H (ds.map (·.2)) (ps.map (·.2)) ∧ ps.length = ds.length) Wx m σ H Q → tPairs trs σ H Q
end
end Mi
end
section
set_option Elab.async false
set_option linter.all false
set_option maxRecDepth 100000
set_option autoImplicit false
set_option maxHeartbeats 2000000
namespace Mi
open PySem PyProof.Rows L2
section
variable {X : Cx} {kx vx tg iter : Expr} {ifs : List Expr} {scope : Scope} {own : List (PySem.Str × Nat)} {pos : Pos} {src : TI} {tgt : TG} {tst : TT} {ky vl : TE}
/-- what holds of each part of the block -/
structure DcParts (X : Cx) (scope : Scope) (tg kx vx : Expr) (ifs : List Expr) (tgt : TG) (tst : TT) (ky vl : TE) : Prop where
  tg : ∀ (s : Shared) (H : Hp) (C : Addr) (cl : List (PySem.Str × Addr)) (fp : List Addr), PG (X.blk s H scope (compEnvC scope cl C X.env) fp) tg tgt
  ts : ∀ (s : Shared) (H : Hp) (C : Addr) (cl : List (PySem.Str × Addr)) (fp : List Addr), PTs (X.blk s H scope (compEnvC scope cl C X.env) fp) ifs tst
  ky : ∀ (s : Shared) (H : Hp) (C : Addr) (cl : List (PySem.Str × Addr)) (fp : List Addr), PE (X.blk s H scope (compEnvC scope cl C X.env) fp) kx ky
  vl : ∀ (s : Shared) (H : Hp) (C : Addr) (cl : List (PySem.Str × Addr)) (fp : List Addr), PE (X.blk s H scope (compEnvC scope cl C X.env) fp) vx vl
/-- as a value, as what a name gets -/
structure Usd (X : Cx) (e : Expr) (t : TE) : Prop where
  pe : PE X e t
  set : ∀ (i : Nat) (y : PySem.Str) (py spos : Pos), X.N[i]? = some y → X.env.scope.names.lookup y = some .local → swapsWith e (some (.Name y py)) spos.line X.env = pure true → PS X (.Assign [.Name y py] e spos) (tAsg t (gName i))
end
end Mi
end
section
set_option Elab.async false
set_option linter.all false
set_option maxRecDepth 100000
set_option autoImplicit false
set_option maxHeartbeats 2000000
namespace Mi
open PySem L2
section
variable {T : Tb} {Wx : WX} {own v2 : List Nat} {i i2 : XI} {g g2 : XG} {t t2 : XT} {e ek ev : XE}
end
section
variable {X : Cx} {T : Tb} {Wx : WX} {elt tg iter tg1 iter1 kx vx : Expr} {ifs ifs1 : List Expr} {scope : Scope} {own : List (PySem.Str × Nat)} {v2 : List Nat} {pos : Pos} {i i2 : XI} {g g2 : XG} {t t2 : XT} {e ek ev : XE}
/-- what makes a new list or dict, by a block of its own: as a value, as what a name gets -/
def MU (X : Cx) (T : Tb) (Wx : WX) (e : Expr) (c : Env → Sto → Out Cell) : Prop := ∃ t, Usd X e t ∧ ∀ σ H Q, lC T Wx c σ H Q → t σ H Q
theorem MU.list {m : XL} (h : MU X T Wx elt (cL m)) : ML X T Wx elt m := by
  obtain ⟨t, u, i⟩ := h
  exact PE.imp u.pe i
theorem MU.dict {m : XD} (h : MU X T Wx elt (cD m)) : MD X T Wx elt m := by
  obtain ⟨t, u, i⟩ := h
  exact PE.imp u.pe i
/-- a context of a block -/
abbrev Blk (X : Cx) (scope : Scope) (P : Cx → Prop) : Prop := ∀ (s : Shared) (H : Hp) (C : Addr) (cl : List (PySem.Str × Addr)) (fp : List Addr), P (X.blk s H scope (compEnvC scope cl C X.env) fp)
theorem mu_comp (hc : X.calm = true) (hN : X.N.Nodup) (hi : MI X T Wx tg iter i) (ok : BlkOk X.N X.env.scope scope own) (hpn : ∀ i ∈ own.map (·.2), T.free i)
    (hg : Blk X scope fun Y => MG Y T (own.map (·.2)) tg g) (ht : Blk X scope fun Y => MTs Y T WxF ifs t) (he : Blk X scope fun Y => ME Y T WxF elt e) (hs : ∀ x, foldedSetIterable iter X.env x = pure x := by intro _; rfl) :
    MU X T Wx (.ListComp elt [⟨tg, iter, ifs, 0⟩] scope pos) (cL (xComp (own.map (·.2)) i g t e)) :=
  ⟨_, ⟨pe_lc hc hN hi ok hg ht he hs, fun _ _ _ _ hy hyl hsw => ps_setLc hc hN hy hyl hsw hi ok hg ht he hs⟩, lc_law hpn⟩
/-- name = what such a block makes -/
theorem ms_setU {m : XE} {j : Nat} {y : PySem.Str} {py spos : Pos} {c : Env → Sto → Out Cell} (h : MU X T Wx elt c) (im : ∀ σ H Q, lE T Wx m σ H Q → lC T Wx c σ H Q) (hj : X.N[j]? = some y := by rfl) (hpn : T.free j := by rfl) (hy : X.env.scope.names.lookup y = some .local := by rfl)
    (hsw : swapsWith elt (some (.Name y py)) spos.line X.env = pure true := by rfl) : MS X T Wx (.Assign [.Name y py] elt spos) (sAsg m (gVar j)) := by
  obtain ⟨t, u, i⟩ := h
  refine PS.imp (u.set j y py spos hj hy hsw) fun E σ H h => i _ _ _ (im _ _ _ ?_)
  obtain ⟨W, st, σd, A, h⟩ := h
  refine stepS A h (fun e s q => ?_) (fun q => ?_) fun W1 st1 H1 x v ex A1 g1 r1 h1 => ?_
  · simp only [sAsg, q]
  · simp only [sAsg, q]
  · simp only [sAsg, ex, gVar] at h1
    exact h1 W1 H1 _ (Grow.refl _ _ _) ⟨A1.abs, A1.slots.set r1 hpn⟩
theorem im_frz {m : XL} : ∀ σ H Q, lE T Wx (xFrz m) σ H Q → lC T Wx (cL m) σ H Q := by
  intro σ H Q ⟨W, st, σd, A, o⟩
  refine ⟨W, st, σd, A, ?_⟩
  unfold xFrz at o
  unfold cL
  cases q : m σd st with
  | ok ds s => rw [q] at o; exact fun W1 H1 v g A1 r => o W1 H1 v g A1 r.fz
  | exc x s => rw [q] at o; exact o
  | bad => rw [q] at o; exact o
theorem im_live {m : XL} : ∀ σ H Q, lE T Wx (xLive m) σ H Q → lC T Wx (cL m) σ H Q := by
  intro σ H Q ⟨W, st, σd, A, o⟩
  refine ⟨W, st, σd, A, ?_⟩
  unfold xLive at o
  unfold cL
  cases q : m σd st with
  | ok ds s =>
    rw [q] at o
    intro W1 H1 v g A1 ⟨a, ev, Aa, k, h0, hf⟩
    subst ev
    obtain ⟨g2, A2, r2⟩ := live_new g Aa k h0 hf
    exact o _ H1 (.ref a) g2 A2 (.loc r2)
  | exc x s => rw [q] at o; exact o
  | bad => rw [q] at o; exact o
end
end Mi
end
section
set_option Elab.async false
set_option linter.all false
set_option maxRecDepth 100000
set_option autoImplicit false
set_option maxHeartbeats 2000000
namespace Mi
open PySem PyProof.Rows
open PySem.Sem (wp)
section
variable {prog : Program} {w : World} {A : Around} {E : Value → Shared → Prop} {s : Shared}
end
open L2
end Mi
end
section
set_option Elab.async false
set_option linter.all false
set_option maxRecDepth 100000
set_option autoImplicit false
set_option maxHeartbeats 2000000
namespace Mi
open PySem PyProof.Rows L2
section
variable {T : Tb} {W : Wd} {st : Sto} {H : Hp} {dd : Addr} {u : HO} {od : Obj}
end
section
variable {X : Cx} {T : Tb} {Wx : WX} {tg e e2 e3 : Expr} {m : XE} {ma : XA} {p pos tpos apos : Pos} {elts : List Expr} {kk : Nat}
end
end Mi
end
section
set_option Elab.async false
set_option linter.all false
set_option maxRecDepth 100000
set_option autoImplicit false
set_option maxHeartbeats 2000000
namespace Mi
open PySem PyProof.Rows
open PySem.Sem (wp)
section
variable {prog : Program} {w : World} {A : Around} {R : Result → Shared → Prop} {it t S : Addr} {items : List Value} {N : Nat} {Old : Addr → List Value → Prop}
/-- what the tuples among the items are, joined -/
inductive Joins (h : Heap) (Old : Addr → List Value → Prop) : List Value → List Value → Prop
  | nil : Joins h Old [] []
  | cons {b : Addr} {ws : List Value} {vs : List Value} {r : List Value} (e : IsTup h b ws.toArray) (o : Old b ws) (t : Joins h Old vs r) : Joins h Old (.ref b :: vs) (ws ++ r)
theorem Joins.keeps {h h' : Heap} {vs r : List Value} (k : ∀ b o, h.get? b = some o → o.cls = .type "tuple" → h'.get? b = some o) (j : Joins h Old vs r) : Joins h' Old vs r := by
  induction j with
  | nil => exact .nil
  | cons e o t ih =>
    obtain ⟨ob, h1, h2, h3⟩ := e
    exact .cons ⟨ob, k _ _ h1 h2, h2, h3⟩ o ih
end
section
variable {prog : Program} {w : World} {A : Around} {R : Result → Shared → Prop} {it t S : Addr} {items : List Value} {N : Nat} {Old : Addr → List Value → Prop}
end
section
variable {prog : Program} {w : World} {A : Around} {E : Value → Shared → Prop} {s : Shared} {t e : Addr} {items : List Value} {Old : Addr → List Value → Prop} {Q : Value → Shared → Prop}
end
open L2
/-- the tuples at these places, joined -/
inductive JoinV (H : Hp) : List V → List V → Prop
  | nil : JoinV H [] []
  | cons {b : Addr} {ws vs r : List V} (e : H b = some (.tup ws)) (t : JoinV H vs r) : JoinV H (.ref b :: vs) (ws ++ r)
section
variable {X : Cx}
variable {T : Tb} {Wx : WX} {e : Expr} {es : List Expr} {ma : XA} {p pos : Pos}
end
end Mi
end
section
set_option Elab.async false
set_option linter.all false
set_option maxRecDepth 100000
set_option autoImplicit false
set_option maxHeartbeats 2000000
namespace Mi
open PySem PyProof.Rows L2
section
variable {X : Cx} {pins : List (Addr × Obj)} {σ : L2.St} {H : Hp} {s : Shared}
end
end Mi
end
section
set_option Elab.async false
set_option linter.all false
set_option maxRecDepth 100000
set_option autoImplicit false
set_option maxHeartbeats 2000000
namespace Mi
open PySem PyProof.Rows L2
section
variable {X : Cx} {T : Tb} {Wx : WX} {e o : Expr} {es : List Expr} {m mo : XE} {ma : XA} {p pos apos cpos : Pos}
theorem RepF.put {W : Wd} {st : Sto} {H : Hp} {i : Nat} {d : D} {v : V} (hi : i < T.n) (hv : Rep T W st H d v) : ∀ {fs : List (Nat × D)} {vs : List (PySem.Str × V)}, RepF T W st H fs vs → RepF T W st H (Mi.putF fs i d) (L2.putF (T.an i) v vs)
  | _, _, .nil => .cons hi hv .nil
  | _, _, .cons (i := j) hj hd r => by
    unfold Mi.putF L2.putF
    by_cases e : j = i
    · subst e
      simp only [if_true]
      first
        | exact .cons hi hv r
        | (simp; exact .cons hi hv r)
    · have ne : T.an j ≠ T.an i := fun z => e (T.inj j i hj hi z)
      have ne' : ¬ T.an i = T.an j := fun z => ne z.symm
      simp only [if_neg e]
      first
        | (rw [if_neg ne]; exact .cons hj hd (RepF.put hi hv r))
        | (rw [if_neg ne']; exact .cons hj hd (RepF.put hi hv r))
        | (simp [ne, ne']; exact .cons hj hd (RepF.put hi hv r))
theorem RepF.len {W : Wd} {st : Sto} {H : Hp} : ∀ {fs : List (Nat × D)} {vs : List (PySem.Str × V)}, RepF T W st H fs vs → vs.length = fs.length
  | _, _, .nil => rfl
  | _, _, .cons _ _ r => by simp [RepF.len r]
end
end Mi
end
section
set_option Elab.async false
set_option linter.all false
set_option maxRecDepth 100000
set_option autoImplicit false
set_option maxHeartbeats 2000000
namespace Mi
open PySem PyProof.Rows L2
section
variable {X : Cx} {T : Tb} {Wx : WX} {k j np c : Nat} {g : Fn} {x : PySem.Str} {e o : Expr} {es : List Expr} {mo : XE} {ma : XA} {p pos apos : Pos}
/-- the method m of the class c -/
structure Mt (X : Cx) (T : Tb) (c k : Nat) (m : PySem.Str) (np : Nat) (g : Fn) : Prop where
  ex : ∃ (f : Addr) (fd : FuncData) (ps : List PySem.Str), FnOk X.prog X.w X.K X.mg X.base (L2.CX X.prog X.w) k f fd ps (spM T np g) ∧ Cls X.K (T.ca c) ∧ Meth X.K (T.ca c) m f ∧ Binds X.K fd ps [] ∧ ps.length = np
  nf : ∀ i, i < T.n → T.an i ≠ m
theorem RepF.no {W : Wd} {st : Sto} {H : Hp} {m : PySem.Str} (nf : ∀ i, i < T.n → T.an i ≠ m) : ∀ {fs : List (Nat × D)} {vs : List (PySem.Str × V)}, RepF T W st H fs vs → vs.lookup m = none
  | _, _, .nil => rfl
  | _, _, .cons (i := i) hi hv r => by
    have : (m == T.an i) = false := beq_eq_false_iff_ne.mpr fun z => nf i hi z.symm
    rw [List.lookup_cons, this]
    exact RepF.no nf r
structure Mkc (X : Cx) (T : Tb) (c k : Nat) (x : PySem.Str) (np : Nat) (g : Fn) : Prop where
  ex : ∃ (f : Addr) (fd : FuncData) (ps : List PySem.Str), FnOk X.prog X.w X.K X.mg X.base (L2.CX X.prog X.w) k f fd ps (spM T np g) ∧ Mk X.K (T.ca c) f ∧ X.mg x = some (.ref (T.ca c)) ∧ Binds X.K fd ps [] ∧ ps.length = np
end
end Mi
end
section
set_option Elab.async false
set_option linter.all false
set_option maxRecDepth 100000
set_option autoImplicit false
set_option maxHeartbeats 2000000
namespace Mi
open PySem PyProof.Rows
section
variable {prog : Program} {w : World} {A : Around} {E : Value → Shared → Prop} {s : Shared} {K : PySem.W.Frag} {x C f : Addr} {ox : Obj} {od : Option Obj} {b : Value}
end
open L2
/-- the class c has an == of its own -/
structure Eqc (X : Cx) (T : Tb) (c k : Nat) (g : Fn) : Prop where
  ex : ∃ (f : Addr) (fd : FuncData) (ps : List PySem.Str), FnOk X.prog X.w X.K X.mg X.base (L2.CX X.prog X.w) k f fd ps (spM T 2 g) ∧ PySem.W.findIn X.K (.ref (T.ca c)) "__eq__" = some (some (.ref f)) ∧ PySem.W.isFn X.K (.ref f) = true ∧ Binds X.K fd ps [] ∧ ps.length = 2
  ne : PySem.W.findIn X.K (.ref (T.ca c)) "__ne__" = some (some (.builtin "object.__ne__"))
  mro : PySem.W.mroIn X.K (T.ca c) (.type "object") = some true
section
variable {X : Cx} {T : Tb} {Wx : WX} {k j c : Nat} {g : Fn} {a b : Expr} {ma mb : XE} {pos : Pos} {pf : Bool}
end
end Mi
end
section
set_option Elab.async false
set_option linter.all false
set_option maxRecDepth 100000
set_option autoImplicit false
set_option maxHeartbeats 2000000
namespace Mi
open PySem PyProof.Rows L2
theorem takes_blk {X : Cx} {s : Shared} {H : Hp} {scope : Scope} {env : PySem.Env} {fp : List Addr} : Takes (X.blk s H scope env fp) WxF := fun u s' h => by
  obtain ⟨a, B, sI, pins, σ, H', cls, d, e, I, nb, up, sky, na, os, ag, w⟩ := h
  exact w
def blkB (N : List PySem.Str) (sc scope : Scope) (own : List (PySem.Str × Nat)) : Bool :=
  decide (scope.kind = .function) && (scope.names.all fun y => decide (scope.names.lookup y.1 = some y.2)) && (own.all fun p => decide (N[p.2]? = some p.1)) &&
  (scope.names.all fun y => !decide (y.2 = .free) || decide (sc.names.lookup y.1 = some .cell) || decide (sc.names.lookup y.1 = some .free)) &&
  (scope.names.all fun y => !(decide (y.2 = .local) || decide (y.2 = .cell)) || (own.map (·.1)).contains y.1 || !N.contains y.1)
theorem blk_of {N : List PySem.Str} {sc scope : Scope} {own : List (PySem.Str × Nat)} (h : blkB N sc scope own = true) : BlkOk N sc scope own := by
  unfold blkB at h
  simp only [Bool.and_eq_true, decide_eq_true_eq, List.all_eq_true, Bool.or_eq_true, Bool.not_eq_true', decide_eq_false_iff_not] at h
  obtain ⟨⟨⟨⟨h1, h2⟩, h3⟩, h4⟩, h5⟩ := h
  refine ⟨h1, h2, h3, fun y hy e => ?_, fun y hy e => ?_⟩
  · rcases h4 y hy with (q | q) | q
    · exact absurd e q
    · exact .inl q
    · exact .inr q
  · rcases h5 y hy with (q | q) | q
    · rw [Bool.or_eq_false_iff] at q
      simp only [decide_eq_false_iff_not] at q
      exact (e.elim q.1 q.2).elim
    · exact .inl (by simpa using q)
    · exact .inr (by simpa using q)
section
variable {X : Cx} {T : Tb} {Wx : WX}
theorem bl {x : PySem.Str} {v : Value} (hm : X.mg x = none) (hb : bootBuiltins x = some v) (hg : Gl X x := by rfl) (hn : x ≠ "__name__" := by decide) (hd : (x == ("__debug__" : PySem.Str)) = false := by decide) : Bl X x v := ⟨hg, hm, hb, hn, hd⟩
theorem mc {o e : Expr} {name : PySem.Str} {apos cpos : Pos} {es : List Expr} (hb : attributeBase o name X.env (eval o X.env) = eval o X.env := by rfl)
    (few : ((backTo cpos (starEach (e :: es) X.env)).all (fun x => !x.1) && (backToKw cpos (keywordEach [] X.env)).all (fun x => x.1.isSome) && decide ((e :: es).length + ([] : List Keyword).length + (if ([] : List Keyword).isEmpty then 0 else 1) < 30)) = true := by rfl)
    (line : (apos.endLine == cpos.line) = true := by rfl) (st : starEach (e :: es) X.env = (false, eval e X.env) :: starEach es X.env := by rfl) (pl : (backTo cpos (starEach es X.env)).any (·.1) = false := by rfl) : Mc X o name apos e es cpos := ⟨hb, few, line, st, pl⟩
theorem u1 {k : Nat} {A : Around} (r : Room k A) : A.units + 1 < cLine := by have := r.un; omega
theorem u2 {k : Nat} {A : Around} (r : Room k A) : A.units + 2 < cLine := by have := r.un; omega
theorem u64 {k : Nat} {A : Around} (r : Room k A) : A.units + 64 < cLine := by have := r.un; omega
theorem u66 {k : Nat} {A : Around} (r : Room k A) : A.units + 66 < cLine := by have := r.un; omega
/-- a module's whole number, text -/
theorem me_gint {x : PySem.Str} {i : Int} {pos : Pos} (hm : ∃ t, X.mg x = some (.int i t)) (hg : Gl X x := by rfl) (hd : (x == ("__debug__" : PySem.Str)) = false := by decide) : ME X T Wx (.Name x pos) (xC (.int i)) := by
  obtain ⟨t, hm⟩ := hm
  exact me_glob hg hm (v := .int i) ⟨t, rfl⟩ (fun _ _ _ => .int i) hd
theorem me_gstr {x : PySem.Str} {z : PySem.Str} {s : List Nat} {pos : Pos} (hm : ∃ t, X.mg x = some (.str z t)) (hz : z = strOf s) (hg : Gl X x := by rfl) (hd : (x == ("__debug__" : PySem.Str)) = false := by decide) : ME X T Wx (.Name x pos) (xC (.str s)) := by
  obtain ⟨t, hm⟩ := hm
  subst hz
  exact me_glob hg hm (v := .str (strOf s)) ⟨t, rfl⟩ (fun _ _ _ => .str s) hd
end
section
variable {P : Program} {w : World} {K : PySem.W.Frag} {mg : PySem.Str → Option Value} {base : Heap}
/-- THE RULE for a def (a datum of the head): its body refines the mirror's -/
theorem fn_defD {T : Tb} {x qual : PySem.Str} {params : Arguments} {body : List Stmt} {scope : Scope} {f : Addr} {fd : FuncData} {N ps : List PySem.Str} {k np n : Nat} {b : XS} (F : FunD K x qual params body scope [] [] f fd) (S : FnScope N ps scope) (hnp : ps.length = np) (hn : N.length = n) (hT : T.pin = [])
    (hbody : ∀ (cdv : Value) (A : Around) (outer : List PySem.Env) (s : Shared) (H : Hp) (E : XK), Room k (A.deeper (PyProof.Rows.envOfC qual scope s.heap.objs.size f cdv)) →
      MSs (bodyCx P w K mg base N qual scope f cdv A outer s H E) T (bodyWx E) body b) : FnOk P w K mg base (L2.CX P w) (k + 1) f fd ps (spM T np (mkDef np n b)) := by
  subst hnp hn
  refine FunD.okG F S (fun vs H Q E h => h.1) fun cdv A outer s H vs Q E hr h => ⟨_, hbody cdv A outer s H E hr, ?_⟩
  obtain ⟨hl, W, st, ds, Ab, rs, o⟩ := h
  refine ⟨W, st, startV ds N.length, ⟨Ab, startV_ok hT rs⟩, ?_⟩
  simp only [mkDef] at o
  split at o
  · exact OutSt.end (fun _ _ _ _ h => h) o
  · exact False.elim o
/-- a def that keeps its promise -/
abbrev Fok (P : Program) (w : World) (K : PySem.W.Frag) (mg : PySem.Str → Option Value) (base : Heap) (T : Tb) (k np : Nat) (g : Fn) (f : Addr) : Prop :=
  ∃ (fd : FuncData) (ps : List PySem.Str), FnOk P w K mg base (L2.CX P w) k f fd ps (spM T np g) ∧ PySem.W.keepIn K (.ref f) = true ∧ Binds K fd ps [] ∧ ps.length = np
theorem df_of {X : Cx} {T : Tb} {k np : Nat} {g : Fn} {x : PySem.Str} {f : Addr} (h : Fok X.prog X.w X.K X.mg X.base T k np g f) (hm : X.mg x = some (.ref f)) : Df X T k x np g := by
  obtain ⟨fd, ps, F, kp, hb, hl⟩ := h
  exact ⟨f, fd, ps, F, hm, kp, hb, hl⟩
theorem Fok.mono {T : Tb} {k j np : Nat} {g : Fn} {f : Addr} (h : Fok P w K mg base T k np g f) (hk : k ≤ j) : Fok P w K mg base T j np g f := by
  obtain ⟨fd, ps, F, r⟩ := h
  exact ⟨fd, ps, F.mono hk, r⟩
theorem fok_bad {T : Tb} {k np : Nat} {f : Addr} {fd : FuncData} {ps : List PySem.Str} (kp : PySem.W.keepIn K (.ref f) = true) (hb : Binds K fd ps []) (hnp : ps.length = np) : Fok P w K mg base T k np fnBad f := ⟨fd, ps, fn_bad hnp, kp, hb, hnp⟩
end
end Mi
end
section
set_option Elab.async false
set_option linter.all false
set_option maxRecDepth 100000
set_option autoImplicit false
set_option maxHeartbeats 2000000
namespace Mi
open PySem PySem.Spec PyProof.Rows L2 LamX
/-- what is tracked at the law's entry: the tables (empty), the script (u) -/
def trH (ts : List Addr) (a : Addr) (u : Option HO) : Hp := fun b => if b ∈ ts then some (.tbl #[]) else if b = a then u else none
theorem trH_t {ts : List Addr} {a b : Addr} {u : Option HO} (h : b ∈ ts) : trH ts a u b = some (.tbl #[]) := if_pos h
theorem trH_a {ts : List Addr} {a : Addr} {u : Option HO} (h : a ∉ ts) : trH ts a u a = u := by
  unfold trH
  rw [if_neg h, if_pos rfl]
theorem trH_o {ts : List Addr} {a b : Addr} {u : Option HO} (h : b ∉ ts) (n : b ≠ a) : trH ts a u b = none := by
  unfold trH
  rw [if_neg h, if_neg n]
/-- the script's object -/
abbrev scrO (vs : List Value) : Obj := { cls := .type "list", data := .seq vs.toArray }
abbrev tabO : Obj := { cls := .none, data := .fields #[] }
theorem law_callG {P : Program} {w : World} {K : PySem.W.Frag} {mg mb : PySem.Str → Option Value} {k : Nat} {fa a : Addr} {cs : List (Addr × Addr)} {fd : FuncData} {x : PySem.Str} {sp : Sp} {s₁ : Shared} {vs : List Value} {ns : List Int}
    (KX : K.In s₁.heap) (hns : s₁.heap.Ns mainGlobals mg) (hb : s₁.heap.Ns builtinsNs mb) (hbb : ∀ x : PySem.Str, x ≠ "__name__" → mb x = bootBuiltins x) (hlim : s₁.heap.NoLimit) (hg : s₁.gens = #[])
    (hT : ∀ p ∈ cs, s₁.heap.get? p.2 = some tabO) (nT : ∀ p ∈ cs, K.lookup p.2 = none) (C : ∀ p ∈ cs, PySem.W.CodeHd s₁.heap p.1 p.2)
    (hbm : ∃ (bm : Addr) (ob : Obj), mg "__builtins__" = some (.ref bm) ∧ bm ≠ builtinsNs ∧ s₁.heap.get? bm = some ob ∧ ob.cls = .type "module" ∧ ob.dict = some builtinsNs ∧ ob.data = .plain)
    (ha : s₁.heap.get? a = some (scrO vs)) (hi : IntsAre vs ns) (hl : ns.length ≤ sizeLine) (hr : Room k callerA)
    (F : ∀ base : Heap, K.In base → base.Ns mainGlobals mg → (∀ p ∈ cs, TabB base mg p.1 p.2) → FnOk P w K mg base (L2.CX P w) k fa fd [x] sp) (hbind : ∀ (s : Shared) (u : Value), BindsTo s fd ⟨[u], []⟩ [(x, u)])
    (hsp : ∀ H : Hp, (∀ p ∈ cs, H p.2 = some (.tbl #[])) → ScrAt ⟨[], []⟩ [] K H a (ns.map V.int) → sp [.ref a] H (fun v _ => v = .bl true) fun _ _ _ => False) :
    codeAny (model P w) callerA (.call (.ref fa) ⟨[.ref a], []⟩) (fun r s' => r = .ok (.ret (.bool true)) ∧ OldK s₁.heap s'.heap ∧ s'.os = s₁.os ∧ AllBare s'.gens) s₁ := by
  have rv := vals_ints hi
  generalize hts : cs.map (·.2) = ts
  have mt : ∀ p ∈ cs, p.2 ∈ ts := fun p hp => by rw [← hts]; exact List.mem_map_of_mem hp
  have tO : ∀ b ∈ ts, ∃ p ∈ cs, p.2 = b := fun b hb => by
    rw [← hts] at hb
    obtain ⟨p, hp, e⟩ := List.mem_map.mp hb
    exact ⟨p, hp, e⟩
  have isT : ∀ b ∈ ts, s₁.heap.get? b = some tabO := fun b hb => by
    obtain ⟨p, hp, rfl⟩ := tO b hb
    exact hT p hp
  have aT : a ∉ ts := fun z => by
    have q := isT a z
    rw [ha] at q
    cases q
  generalize hu : (if (K.lookup a).isSome then none else some (HO.frz (scrO vs) (.lst (ns.map V.int)))) = u
  -- what is tracked
  have cas : ∀ b o, trH ts a u b = some o → (b ∈ ts ∧ o = .tbl #[]) ∨ (b = a ∧ K.lookup a = none ∧ o = .frz (scrO vs) (.lst (ns.map V.int))) := fun b o e => by
    by_cases h1 : b ∈ ts
    · rw [trH_t h1] at e
      cases e
      exact .inl ⟨h1, rfl⟩
    · by_cases h2 : b = a
      · subst h2
        rw [trH_a h1, ← hu] at e
        cases q : K.lookup b with
        | some o' => rw [q] at e; simp at e
        | none => rw [q] at e; simp at e; exact .inr ⟨rfl, rfl, e.symm⟩
      · rw [trH_o h1 h2] at e
        cases e
  have no : ∀ {b : Addr} {o : Obj}, s₁.heap.get? b = some o → (∀ xs n, o.data ≠ .seq xs n) → o.data ≠ .fields #[] → trH ts a u b = none := fun {b o} e h1 h2 => by
    cases q : trH ts a u b with
    | none => rfl
    | some o' =>
      rcases cas b o' q with ⟨z, _⟩ | ⟨z, _⟩
      · rw [isT b z] at e
        cases e
        exact absurd rfl h2
      · rw [z, ha] at e
        cases e
        exact absurd rfl (h1 _ _)
  have hk : ∀ {b : Addr} {m : PySem.Str → Option Value}, s₁.heap.Ns b m → (hidT s₁.heap (trH ts a u)).Ns b m := fun {b m} ⟨o, es, ep, e, d, r⟩ =>
    ⟨o, es, ep, hidT_get e (no e (fun xs n z => by rw [d] at z; cases z) fun z => by rw [d] at z; cases z), d, r⟩
  have KB : K.In (hidT s₁.heap (trH ts a u)) := fun b o e => by
    refine hidT_get (KX b o e) ?_
    cases q : trH ts a u b with
    | none => rfl
    | some o' =>
      rcases cas b o' q with ⟨z, _⟩ | ⟨z, z2, _⟩
      · obtain ⟨p, hp, rfl⟩ := tO b z
        rw [nT p hp] at e
        cases e
      · rw [z, z2] at e
        cases e
  have TB : ∀ p ∈ cs, TabB (hidT s₁.heap (trH ts a u)) mg p.1 p.2 := fun p hp => by
    obtain ⟨bm, ob, b1, b2, b3, b4, b5, b6⟩ := hbm
    obtain ⟨og, eg, pg, g1, g2, _⟩ := hns
    refine ⟨?_, ⟨bm, ob, b1, b2, fun z => ?_, fun z => ?_, hidT_get b3 (no b3 (fun xs n z => by rw [b6] at z; cases z) fun z => by rw [b6] at z; cases z), b4, b5, b6⟩, fun z => ?_⟩
    · obtain ⟨o, us, file, tf, flags, tg, inF, text, tt, e1, r1, r2, r3, r⟩ := C p hp
      refine ⟨o, us, file, tf, flags, tg, inF, text, tt, hidT_get e1 (no e1 (fun xs n z => by rw [r2] at z; cases z) fun z => ?_), r1, r2, r3, r⟩
      rw [r2] at z
      cases z
      simp at r3
    · rw [z, g1] at b3
      cases b3
      rw [g2] at b6
      cases b6
    · rw [z, hT p hp] at b3
      cases b3
      cases b6
    · rw [z, hT p hp] at g1
      cases g1
      cases g2
  have hok : HOk P w (trH ts a u) s₁.heap := fun b o e => by
    rcases cas b o e with ⟨z, rfl⟩ | ⟨rfl, _, rfl⟩
    · exact isT b z
    · exact ⟨ha, by rw [List.length_map]; exact hl, vs, _, rv, ha⟩
  have e0 : Env0 P w K mg (hidT s₁.heap (trH ts a u)) callerA [] s₁ (trH ts a u) :=
    ⟨rfl, ⟨KB, hk hns, ⟨mb, hk hb, hbb⟩, let ⟨mc, h1, h2⟩ := hlim; ⟨mc, hk h1, h2⟩⟩, fun b o e => of_hidT e, Nat.le_of_eq (hidT_size _ _), trivial, fun b hb => absurd (show b ∈ ([] : List Addr) from hb) (by simp), hok, .of_eq hg⟩
  have sc : ScrAt ⟨[], []⟩ [] K (trH ts a u) a (ns.map V.int) := by
    cases q : K.lookup a with
    | none =>
      refine .inl ⟨scrO vs, ?_⟩
      rw [trH_a aT, ← hu, q]
      rfl
    | some o =>
      have e := KX a o q
      rw [ha] at e
      cases e
      exact .inr (.inr (.inr ⟨_, vs.toArray, _, q, rfl, rfl, rfl, by rw [List.size_toArray, hi.length]; exact hl, by simpa using rv⟩))
  refine codeAny_mono ((F _ KB (hk hns) TB).run callerA [] s₁ _ ⟨[.ref a], []⟩ [.ref a] [.ref a] _ _ hr e0 (hbind s₁ (.ref a)) (.cons rfl .nil) (hsp _ (fun p hp => trH_t (mt p hp)) sc)) fun r s' h => ?_
  cases r with
  | error e =>
    obtain ⟨_, _, _, _, _, _, _, _, _, _, _, _, z⟩ := h
    exact z.elim
  | ok fl =>
    cases fl with
    | next => exact False.elim h
    | brk => exact False.elim h
    | cont => exact False.elim h
    | ret v0 =>
      obtain ⟨v, H', os, bare, un, hok', r', rfl⟩ := h
      obtain rfl : v0 = Value.bool true := r'
      have grown : ∀ b ∈ ts, ∃ more : Array Value, s'.heap.get? b = some { cls := .none, data := .fields more } := fun b hb => by
        obtain ⟨more, z⟩ := un.tbls b #[] (trH_t hb)
        exact ⟨_, hok' b _ z⟩
      have keep : ∀ b o, b ∉ ts → s₁.heap.get? b = some o → s'.heap.get? b = some o := fun b o nb e => by
        cases q : trH ts a u b with
        | none => exact un.keep b o e q (fun z => by cases z) (by simp)
        | some o' =>
          rcases cas b o' q with ⟨z, _⟩ | ⟨rfl, _, rfl⟩
          · exact absurd z nb
          · obtain ⟨e2, _⟩ := hok' b _ (un.frzs b _ _ q)
            rw [ha] at e
            cases e
            exact e2
      refine ⟨rfl, ⟨fun b o e => ?_, fun b o e => ?_⟩, os, bare⟩
      · by_cases hb : b ∈ ts
        · obtain ⟨p, hp, rfl⟩ := tO b hb
          obtain ⟨more, hm⟩ := grown p.2 hb
          rw [hT p hp] at e
          cases e
          exact .inr (.inl ⟨((C p hp).tab (hT p hp)).isCodeTable, rfl, #[], more, rfl, by rw [Array.empty_append]; exact hm⟩)
        · exact .inl (keep b o hb e)
      · by_cases hb : b ∈ ts
        · obtain ⟨more, hm⟩ := grown b hb
          exact ⟨_, hm⟩
        · exact ⟨o, keep b o hb e⟩
theorem walk_G {l : PySem.W.OpenLaw} {n k : Nat} {q : Program} {loose : List PySem.Str} {XP : (PySem.Str → Option Value) → Heap → Prop} {YP : World → Heap → Prop} {d : DefRec} {x : PySem.Str}
    (hn : l.most = some n) (hn2 : n ≤ sizeLine) (hdf : d.params.defaults = []) (hr : Room k callerA)
    (F : ∀ (w : World) (mg : PySem.Str → Option Value) (fa : Addr) (h : Heap), YP w h → h.Ns mainGlobals mg → mg d.name = some (.ref fa) →
      ∃ (K : PySem.W.Frag) (fd : FuncData) (cs : List (Addr × Addr)) (sp : Sp), K.In h ∧ (∀ p ∈ cs, h.get? p.2 = some tabO) ∧ (∀ p ∈ cs, K.lookup p.2 = none) ∧ (∀ p ∈ cs, PySem.W.CodeHd h p.1 p.2) ∧ (∀ (s : Shared) (u : Value), BindsTo s fd ⟨[u], []⟩ [(x, u)]) ∧
        (∀ (H : Hp) (a : Addr) (ns : List Int), ns.length ≤ n → (∀ p ∈ cs, H p.2 = some (.tbl #[])) → ScrAt ⟨[], []⟩ [] K H a (ns.map V.int) → sp [.ref a] H (fun v _ => v = .bl true) fun _ _ _ => False) ∧
        ∀ base : Heap, K.In base → base.Ns mainGlobals mg → (∀ p ∈ cs, TabB base mg p.1 p.2) → FnOk l.prog w K mg base (L2.CX l.prog w) k fa fd [x] sp) :
    PySem.W.WalkO q loose XP YP l.row.toRowW d [] (fun f vs => PySem.call f vs) := by
  refine Att.attach_callB hn hdf fun w s₀ s₁ mg mb fa o pm cd doc a vs ns G Y ho hd hcd hmg hobj hints hlen _ hg => ?_
  obtain ⟨K, fd, cs, sp, KX, hT, nT, C, hb, hsp, hF⟩ := F w mg fa _ Y G.T.g hmg
  exact law_callG KX G.T.g G.T.b G.T.builtins G.T.nolimit hg hT nT C G.T.bmain hobj hints (Nat.le_trans hlen hn2) hr hF hb fun H h1 h2 => hsp H a ns hlen h1 h2
end Mi
end
section
set_option autoImplicit false
set_option linter.all false
namespace Mi
def runL (g : Fn) (ds : List D) (st : Sto) : Out D := match g ds [] with
  | .ok d s => match d with
    | .loc l => match s[l]? with
      | some (.lst xs) => match trL (fzN 6) s xs with
        | some (ys, s') => match s'[l]? with
          | some (.lst _) => if pureL ys then .ok (.loc st.length) (st ++ [.lst ys]) else .bad
          | _ => .bad
        | none => .bad
      | _ => .bad
    | _ => .bad
  | .exc e _ => if pureF e.fs then .exc e st else .bad
  | .bad => .bad
/-- a call upon frozen values that hands out a new list, live -/
def xCallL (np : Nat) (g : Fn) (ma : XA) : XE := fun σ st => (ma σ st).bind fun ds st1 => if ds.length = np ∧ pureL ds = true then runL g ds st1 else .bad
end Mi
end
section
set_option Elab.async false
set_option linter.all false
set_option maxRecDepth 100000
set_option autoImplicit false
set_option maxHeartbeats 2000000
namespace Mi
open PySem PyProof.Rows L2
section
variable {T : Tb} {W W2 : Wd} {st st2 : Sto} {H H2 : Hp}
/-- a field left out -/
theorem RepF.drop (i : Nat) (hi : i < T.n) : ∀ {fs : List (Nat × D)} {us : List (PySem.Str × V)}, RepF T W st H fs us → RepF T W st H (fs.filter fun p => decide (p.1 ≠ i)) (us.filter fun p => !(p.1 == T.an i))
  | _, _, .nil => .nil
  | _, _, .cons (i := j) hj h r => by
    by_cases e : j = i
    · subst e
      simp only [List.filter_cons, ne_eq, not_true, decide_false, Bool.false_eq_true, if_false, beq_self_eq_true, Bool.not_true]
      exact RepF.drop j hi r
    · have : (T.an j == T.an i) = false := beq_eq_false_iff_ne.mpr fun z => e (T.inj j i hj hi z)
      simp only [List.filter_cons, ne_eq, e, not_false_eq_true, decide_true, if_true, this, Bool.not_false]
      exact .cons hj h (RepF.drop i hi r)
/-- a world with one list more -/
theorem OutG.runL {Wx : WX} {σ : L2.St} {Q : VK} {g : Fn} {ds : List D} (A : Abs T W st H) (h : OutG T (Rep T) Wx σ W st H (Mi.runL g ds st) Q) : OutG T (Rep T) Wx σ (W.out st) [] H (g ds []) Q := by
  simp only [Mi.runL] at h
  cases e : g ds [] with
  | ok d s =>
    rw [e] at h
    simp only at h
    cases d with
    | loc l =>
      simp only at h
      cases hc : s[l]? with
      | none => rw [hc] at h; exact False.elim h
      | some c =>
        rw [hc] at h
        cases c with
        | lst xs =>
          simp only at h
          cases ef : trL (fzN 6) s xs with
          | none => rw [ef] at h; exact False.elim h
          | some p =>
            obtain ⟨ys, s'⟩ := p
            rw [ef] at h
            simp only at h
            cases hc' : s'[l]? with
            | none => rw [hc'] at h; exact False.elim h
            | some c' =>
              rw [hc'] at h
              cases c' with
              | lst zs =>
                simp only at h
                split at h
                · rename_i hp
                  intro W2 H2 v g2 A2 r
                  cases r with
                  | loc hl =>
                    rename_i a
                    obtain ⟨gg, AA, lv⟩ := g2.back A A2
                    obtain ⟨vs, e1, r1⟩ := A2.cell l _ a hc hl
                    obtain ⟨les, r2⟩ := trL_ok (fzN_ok 6) xs s s' ys vs A2 r1 ef
                    have nl : ∀ b, ¬ LivO (W.out st) [] b := fun b ⟨i, c, z1, z2, n⟩ => by simp at z2
                    have hnew : Nobj H a := (g2.new a ⟨l, _, hl, hc, fun z => by cases z⟩).elim (fun q => absurd q (nl a)) id
                    have hnl : ¬ Liv W st a := fun q => by
                      have := lv a q
                      exact A2.out a ⟨l, _, hl, hc, fun z => by cases z⟩ this
                    have hlen := A.len
                    have lo : ∀ b, LivO ⟨W.fb, W.rho ++ [a]⟩ (st ++ [.lst ys]) b → LivO W st b ∨ b = a := fun b q => by
                      obtain ⟨i, c, z1, z2, n⟩ := q
                      have z1' : (W.rho ++ [a])[i]? = some b := z1
                      rcases Nat.lt_or_ge i st.length with hi | hi
                      · rw [List.getElem?_append_left (by omega)] at z1' z2
                        exact .inl ⟨i, c, z1', z2, n⟩
                      · have : i = st.length := by
                          have := (List.getElem?_eq_some_iff.mp z2).1
                          rw [List.length_append, List.length_cons, List.length_nil] at this
                          omega
                        subst this
                        rw [← hlen, List.getElem?_append_right (Nat.le_refl _), Nat.sub_self] at z1'
                        simp at z1'
                        exact .inr z1'.symm
                    have gW : Grow W st H ⟨W.fb, W.rho ++ [a]⟩ (st ++ [.lst ys]) H2 := ⟨gg.fbs, gg.fbn, List.prefix_append _ _, fun b o z1 z2 z3 => gg.keep b o z1 z2 z3, fun b q => (lo b q).elim .inl fun z => .inr (z ▸ hnew), gg.still⟩
                    have hnew1 : (W.rho ++ [a])[st.length]? = some a := by rw [← hlen, List.getElem?_append_right (Nat.le_refl _), Nat.sub_self]; rfl
                    have atl : ∀ {i : Nat} {c : Cell} {b : Addr}, (st ++ [Cell.lst ys])[i]? = some c → (W.rho ++ [a])[i]? = some b → (st[i]? = some c ∧ W.rho[i]? = some b ∧ i < st.length) ∨ (i = st.length ∧ c = .lst ys ∧ b = a) := fun {i c b} z1 z2 => by
                      rcases Nat.lt_or_ge i st.length with hi | hi
                      · rw [List.getElem?_append_left (by omega)] at z1 z2
                        exact .inl ⟨z1, z2, hi⟩
                      · have : i = st.length := by
                          have := (List.getElem?_eq_some_iff.mp z1).1
                          rw [List.length_append, List.length_cons, List.length_nil] at this
                          omega
                        subst this
                        rw [hnew1] at z2
                        rw [List.getElem?_append_right (Nat.le_refl _), Nat.sub_self] at z1
                        simp at z1 z2
                        exact .inr ⟨rfl, z1.symm, z2.symm⟩
                    have AN : Abs T ⟨W.fb, W.rho ++ [a]⟩ (st ++ [.lst ys]) H2 := by
                      refine ⟨by show (W.rho ++ [a]).length = _; simp [hlen], fun i c b z1 z2 => ?_, fun i i' b c c' z1 z2 z3 z4 n n' => ?_, fun b q => ?_, AA.fbt, AA.tabs⟩
                      · rcases atl z1 z2 with ⟨y1, y2, y3⟩ | ⟨rfl, rfl, rfl⟩
                        · by_cases hd : c = .dead
                          · subst hd; trivial
                          · exact (A.cell i c b y1 y2).to (gW.to A) fun o e t => g2.keepB e (nl b) t (List.mem_append.mpr (.inr (livs_iff.mpr ⟨i, c, y2, y1, hd⟩)))
                        · refine ⟨vs, e1, Reps.un (n := 0) (fun y q => ?_) (fun l a q => absurd q (Nat.not_lt_zero _)) (by rw [← pureL_under]; exact hp) r2⟩
                          rcases q with q | q
                          · exact .inl (lv y (.inl q))
                          · rcases lo y q with q | rfl
                            · exact .inl (lv y (.inr q))
                            · exact .inr ⟨l, _, hl, hc', fun z => by cases z⟩
                      · rcases atl z3 z1 with ⟨y1, y2, y3⟩ | ⟨rfl, rfl, rfl⟩ <;> rcases atl z4 z2 with ⟨x1, x2, x3⟩ | ⟨rfl, rfl, e9⟩
                        · exact A.one i i' b c c' y2 x2 y1 x1 n n'
                        · exact absurd (.inr ⟨i, c, e9 ▸ y2, y1, n⟩) hnl
                        · exact absurd (.inr ⟨i', c', x2, x1, n'⟩) hnl
                        · rfl
                      · rcases lo b q with q | rfl
                        · exact A.out b q
                        · exact fun z => hnl (.inl z)
                    exact h ⟨W.fb, W.rho ++ [a]⟩ H2 (.ref a) gW AN (.loc hnew1)
                · exact False.elim h
              | _ => exact False.elim h
        | _ => exact False.elim h
    | _ => exact False.elim h
  | exc x s =>
    rw [e] at h
    simp only at h
    split at h
    · rename_i hp
      intro W2 H2 c y g2 A2 r
      obtain ⟨gg, AA, lv⟩ := g2.back A A2
      exact h W H2 c y gg AA (ExR.un (n := 0) (fun a q => .inl (lv a q)) (fun l a q => absurd q (Nat.not_lt_zero _)) (by rw [← pureF_under]; exact hp) r)
    · exact False.elim h
  | bad => rw [e] at h; exact h
end
section
variable {X : Cx} {T : Tb} {Wx : WX} {x : PySem.Str} {k j np : Nat} {g : Fn} {e : Expr} {es : List Expr} {ma : XA} {p pos : Pos}
theorem me_callL (D : Df X T k x np g) (hr : Room j X.A) (hk : k ≤ j) (tk : Takes X Wx) (hg : Gl X x) (ha : MA X T Wx (e :: es) ma) (hdb : (x == ("__debug__" : PySem.Str)) = false := by decide)
    (he : starEach (e :: es) X.env = (false, eval e X.env) :: starEach es X.env := by rfl) (hpl : (backTo pos (starEach es X.env)).any (·.1) = false := by rfl) :
    ME X T Wx (.Call (.Name x p) (e :: es) [] pos) (xCallL np g ma) := by
  obtain ⟨f, fd, ps, F, hm, hkp, hb, hps⟩ := D.ex
  refine PE.imp (pe_callSD F (hr.mono hk) hg hm hkp hb (fun σ => passAt tk σ) ha hdb he hpl) fun σ H Q ⟨W, st, σd, A, h⟩ => ?_
  refine step A h fun W1 st1 H1 ds vs a1 g1 r1 h1 => ?_
  split at h1
  · rename_i hl
    refine ⟨by rw [List.append_nil, r1.length]; exact hl.1, W1.out st1, [], ds, a1.abs.outW, ?_, OutG.noσ (OutG.runL a1.abs h1)⟩
    rw [List.append_nil]
    exact Reps.un (n := 0) (fun a q => out_liv.mp q) (fun l a q => absurd q (Nat.not_lt_zero _)) (by rw [← pureL_under]; exact hl.2) r1
  · exact False.elim h1
end
section
variable {X : Cx} {T : Tb} {Wx : WX} {a b : Expr} {ma mb : XE} {pos : Pos}
theorem Reps.repl {W : Wd} {st : Sto} {H : Hp} {xs : List D} {vs : List V} (r : Reps T W st H xs vs) : ∀ n : Nat, Reps T W st H (List.replicate n xs).flatten (List.replicate n vs).flatten
  | 0 => .nil
  | n + 1 => by
    rw [List.replicate_succ, List.replicate_succ, List.flatten_cons, List.flatten_cons]
    exact r.append (Reps.repl r n)
end
end Mi
end
section
set_option Elab.async false
set_option linter.all false
set_option maxRecDepth 100000
set_option autoImplicit false
set_option maxHeartbeats 2000000
namespace Mi
open PySem PyProof.Rows L2
section
variable {X : Cx} {T : Tb} {Wx : WX} {x : PySem.Str} {k j np : Nat} {g : Fn} {p pos : Pos}
end
section
variable {X : Cx} {pins : List (Addr × Obj)} {σ : L2.St} {H : Hp} {s : Shared} {d : Addr} {o : Obj}
end
section
variable {P : Program} {w : World} {K : PySem.W.Frag} {d : Addr} {o : Obj} {es : Array DictEntry} {ep : Nat}
end
section
variable {X : Cx} {e : Expr} {td : TE} {apos cpos tpos : Pos} {elts : List Expr} {kk : Nat}
end
section
variable {X : Cx} {T : Tb} {Wx : WX} {e : Expr} {m : XE} {apos cpos tpos : Pos} {elts : List Expr} {kk : Nat}
end
end Mi
end
section
set_option autoImplicit false
set_option linter.all false
namespace Mi
mutual
/-- told by repr, and short -/
def D.rok : D → Bool
  | .non => true
  | .bl _ => true
  | .int i => decide (0 ≤ i ∧ i < 100)
  | .str s => s.all fun c => decide (c < 1114112)
  | .tup xs => rokL xs
  | .lst xs => rokL xs
  | _ => false
def rokL : List D → Bool
  | [] => true
  | x :: xs => x.rok && rokL xs
end
mutual
def D.wt : D → Nat
  | .str s => s.length
  | .int _ => 7
  | .tup xs => wtL xs
  | .lst xs => wtL xs
  | _ => 0
def wtL : List D → Nat
  | [] => 0
  | x :: xs => x.wt + 1 + wtL xs
end
end Mi
end
section
set_option Elab.async false
set_option linter.all false
set_option maxRecDepth 100000
set_option autoImplicit false
set_option maxHeartbeats 2000000
namespace Mi
open PySem PySem.Spec PyProof.Rows L2
section
variable {X : Cx} {T : Tb} {Wx : WX} {a b : Expr} {ma mb : XE} {pos : Pos}
end
end Mi
end
section
set_option Elab.async false
set_option linter.all false
set_option maxRecDepth 100000
set_option autoImplicit false
set_option maxHeartbeats 2000000
namespace Mi
open PySem PyProof.Rows L2
section
variable {X : Cx} {T : Tb} {Wx : WX} {e : Expr} {es : List Expr} {ma : XA} {p pos : Pos}
end
end Mi
end
section
set_option autoImplicit false
set_option linter.all false
namespace Mi
end Mi
end
section
set_option Elab.async false
set_option linter.all false
set_option maxRecDepth 100000
set_option autoImplicit false
set_option maxHeartbeats 2000000
namespace Mi
open PySem PyProof.Rows L2
section
variable {P : Program} {w : World} {H : Hp} {h : Heap} {a : Addr}
end
section
variable {X : Cx} {pins : List (Addr × Obj)} {σ : L2.St} {H : Hp} {s : Shared}
end
section
variable {X : Cx} {T : Tb} {Wx : WX} {o e : Expr} {es : List Expr} {mo : XE} {ma : XA} {apos cpos : Pos}
end
end Mi
end
section
set_option Elab.async false
set_option linter.all false
set_option maxRecDepth 100000
set_option autoImplicit false
set_option maxHeartbeats 2000000
namespace Mi
open PySem PySem.W
section
variable {prog : Program} {w : World} {A : Around} {E : Value → Shared → Prop} {s : Shared} {a b : Value} {da db : PyData} {as bs : List Addr} {Q : Value → Shared → Prop}
end
open PyProof.Rows L2
section
variable {X : Cx} {T : Tb} {Wx : WX} {e : Expr} {es : List Expr} {ma : XA} {p pos : Pos}
end
end Mi
end
section
set_option autoImplicit false
set_option linter.all false
namespace Mi
end Mi
end
section
set_option Elab.async false
set_option linter.all false
set_option maxRecDepth 100000
set_option autoImplicit false
set_option maxHeartbeats 2000000
namespace Mi
open PySem PySem.W
section
variable {prog : Program} {w : World} {A : Around} {E : Value → Shared → Prop} {s : Shared} {a b : Value} {da db : PyData} {as bs : List Addr} {l : Addr} {Q : Value → Shared → Prop}
end
open PyProof.Rows L2
section
variable {X : Cx} {T : Tb} {Wx : WX} {e : Expr} {es : List Expr} {ma : XA} {p pos : Pos}
end
end Mi
end
section
set_option Elab.async false
set_option linter.all false
set_option maxRecDepth 100000
set_option autoImplicit false
set_option maxHeartbeats 2000000
namespace Mi
open PySem PySem.Spec PyProof.Rows L2
section
variable {X : Cx} {T : Tb} {Wx : WX} {a b : Expr} {ma mb : XE} {pos : Pos}
end
end Mi
end
section
set_option autoImplicit false
set_option linter.all false
namespace Mi
end Mi
end
section
set_option Elab.async false
set_option linter.all false
set_option maxRecDepth 100000
set_option autoImplicit false
set_option maxHeartbeats 2000000
namespace Mi
open PySem PySem.Spec PyProof.Rows L2
section
variable {X : Cx} {T : Tb} {Wx : WX} {a : Expr} {ma : XE} {k : Nat} {p1 p2 p3 pos : Pos}
end
end Mi
end
section
set_option autoImplicit false
set_option linter.all false
namespace Mi
/-- isinstance(the error that is held, ..), with fields or none -/
def xIsEF (cs : List Nat) (tab : Nat → Bool) (e : Exn) : XE := fun _ st => if cs.contains e.c then .ok (.bl (tab e.c)) st else .bad
/-- str(i) -/
def vStr (_ : Sto) (ds : List D) : Option D := match ds with
  | [.int i] => if i.natAbs.log2 < 1920 then some (.str ((toString i).toList.map Char.toNat)) else none
  | _ => none
end Mi
end
section
set_option Elab.async false
set_option linter.all false
set_option maxRecDepth 100000
set_option maxHeartbeats 2000000
set_option autoImplicit false
namespace Mi
open PySem PySem.Spec PyProof.Rows L2
section
open PySem.W PySem.Calls
variable {X : Cx} {T : Tb} {Wx : WX} {x : PySem.Str} {p pos : Pos} {C fI : Addr} {scope : Scope}
end
section
variable {X : Cx} {T : Tb} {Wx : WX}
end
end Mi
end
section
set_option Elab.async false
set_option linter.all false
set_option maxRecDepth 100000
set_option maxHeartbeats 2000000
set_option autoImplicit false
namespace Mi
open PySem L2
section
variable {X : Cx} {T : Tb} {Wx : WX}
theorem ExR.to {T : Ts} {W W' : Wd} {st st' : Sto} {H H' : Hp} {e : Exn} {cls : Value} {d : Option Addr} (t : To W st H W' st' H') (r : ExR T W st H e cls d) : ExR T W' st' H' e cls d := by
  refine ⟨r.1, r.2.imp id ?_⟩
  rintro ⟨hn, y, vs, hy, h1, h2, h3⟩
  have k := t.keep y _ h1 h2 (fun _ z => by cases z)
  exact ⟨hn, y, vs, hy, k.1.no, k.2, h3.to t⟩
/-- the slot i holds the error e -/
def Tb.addE (T : Tb) (i : Nat) (a : Addr) (e : Exn) (cls : Value) (d : Option Addr) : Tb := { T with pin := ⟨i, a, fun W st H => ExR T.toTs W st H e cls d, fun t r => r.to t⟩ :: T.pin }
theorem SlotsOk.holdE {W : Wd} {st : Sto} {H : Hp} {σd : Env} {σ : L2.St} {i : Nat} {a : Addr} {e : Exn} {cls : Value} {d : Option Addr} (s : SlotsOk T W st H σd σ) (hf : T.free i) (hi : i < σd.length) (r : ExR T.toTs W st H e cls d) : SlotsOk (T.addE i a e cls d) W st H (σd.set i Option.none) (σ.set i (some (.ref a))) := by
  have s0 := s.hold (a := a) hf hi
  refine ⟨s0.len, s0.get, fun p hp => ?_⟩
  rcases List.mem_cons.mp hp with rfl | hp
  · exact ⟨(s0.pin _ List.mem_cons_self).1, r⟩
  · exact s0.pin p (List.mem_cons_of_mem _ hp)
theorem SlotsOk.letE {W : Wd} {st : Sto} {H : Hp} {σd : Env} {σ : L2.St} {i : Nat} {a : Addr} {e : Exn} {cls : Value} {d : Option Addr} (s : SlotsOk (T.addE i a e cls d) W st H σd σ) (hf : T.free i) : SlotsOk T W st H (σd.set i Option.none) (σ.set i Option.none) := by
  have s' : SlotsOk T W st H σd σ := ⟨s.len, s.get, fun p hp => s.pin p (List.mem_cons_of_mem _ hp)⟩
  exact s'.none hf
def tsE (T : Tb) (i : Nat) (h : Exn → XS) : Addr → Value → Option Addr → TS := fun a cls d E σ H => ∃ e : Exn, lS (T.addE i a e cls d) WxF (h e) E σ H
theorem OutSt.clauseE {E : Ends} {W : Wd} {st : Sto} {H : Hp} {i : Nat} {a : Addr} {e : Exn} {cls : Value} {d : Option Addr} {o : OutS} (hf : T.free i) (h : OutSt T Wx E W st H (match o with
      | .nx σ2 st2 => .nx (σ2.set i none) st2
      | .bk σ2 st2 => .bk (σ2.set i none) st2
      | .ct σ2 st2 => .ct (σ2.set i none) st2
      | .rt d st2 => .rt d st2
      | _ => .bad)) : OutSt (T.addE i a e cls d) WxF { nx := fun σ' H' => E.nx (σ'.set i none) H', rt := E.rt, bk := fun σ' H' => E.bk (σ'.set i none) H', ct := fun σ' H' => E.ct (σ'.set i none) H' } W st H o := by
  cases o with
  | nx σ2 s => exact fun W' H' σ' g A => h W' H' _ g ⟨A.abs, A.slots.letE hf⟩
  | rt d s => exact h
  | bk σ2 s => exact fun W' H' σ' g A => h W' H' _ g ⟨A.abs, A.slots.letE hf⟩
  | ct σ2 s => exact fun W' H' σ' g A => h W' H' _ g ⟨A.abs, A.slots.letE hf⟩
  | exc e σ s => exact False.elim h
  | bad => exact False.elim h
/-- try: b / except x as n: h, the error at hand -/
theorem ms_tryE {x n : PySem.Str} {cv : Value} {i : Nat} {body suite : List Stmt} {b₀ : Stmt} {np pos pos' : Pos} {b : XS} {hd : Exn → XS} {cs : List Nat} {cat : Nat → Bool}
    (hs : X.stack = X.env :: X.outer) (hf : X.env.frame = some X.env.locals) (hN : X.N.Nodup) (hi : X.N[i]? = some n) (hln : X.env.kindOf n = some .local) (hc : Names X x cv) (tk : Takes X Wx) (C : CatOk X.K T.toTs cs cat cv) (hfr : T.free i)
    (hb : ∀ (W : WX) (pn : List (Addr × Obj)) (xe : Value → Shared → Prop), Takes (X.tr pn xe) W → PassesOwn (model X.prog X.w) X.A X.env xe → MSs (X.tr pn xe) T W body b)
    (hsu : ∀ (a : Addr) (oe : Obj) (cls : Value) (d : Option Addr) (pn : List (Addr × Obj)) (e : Exn), Zc cls d oe → (∃ vs, oe.data = .fields vs) → MSs (X.suite a ((a, oe) :: pn)) (T.addE i a e cls d) WxF (b₀ :: suite) (hd e)) :
    MS X T Wx (.Try body [.ExceptHandler (some (.Name x np)) (some n) (b₀ :: suite) pos'] [] [] pos) (sTry cs cat i b hd) := by
  refine PS.imp (ps_try_as hs hf hN hi hln hc tk (tb := fun W => lS T W b) (ts := tsE T i hd) hb fun a oe cls d pn hz hv => ⟨fun pins s σ H D I ⟨e, q⟩ => (hsu a oe cls d pn e hz hv).run pins s σ H D I q⟩) fun D σ H ⟨W, st, σd, A, h⟩ => ?_
  refine ⟨W, st, σd, A, ?_⟩
  simp only [sTry] at h
  cases eb : b σd st with
  | nx σ1 s1 => rw [eb] at h; exact h
  | rt d s1 => rw [eb] at h; exact h
  | bk σ1 s1 => rw [eb] at h; exact h
  | ct σ1 s1 => rw [eb] at h; exact h
  | bad => rw [eb] at h; exact h
  | exc e σ1 s1 =>
    rw [eb] at h
    simp only at h
    split at h
    · rename_i hcs
      simp only [Bool.and_eq_true, decide_eq_true_eq] at hcs
      have hce : e.c ∈ cs := by simpa using hcs.1
      intro W' H' σ' cls dd g A' r
      refine ⟨cat e.c, by rw [r.1]; exact C.ok _ hce, fun hb a _ => ?_, fun hb => ?_⟩
      · rw [if_pos hb] at h
        exact ⟨e, W', s1, σ1.set i none, ⟨A'.abs, A'.slots.holdE hfr hcs.2 r⟩, OutSt.clauseE hfr (OutSt.shift g h)⟩
      · rw [if_neg (by rw [hb]; exact Bool.false_ne_true)] at h
        exact h W' H' σ' cls dd g A' r
    · exact False.elim h
theorem call_isEd {a D dd : Addr} {oe : Obj} {pn : List (Addr × Obj)} (C : ExcC X.K D) (hz : Zc (.ref D) (some dd) oe) (hf : ∃ vs, oe.data = .fields vs) :
    CallR (X.suite a ((a, oe) :: pn)) (.builtin "isinstance") (fun xs H Q => ∃ (c : V) (cv : Value) (b : Bool) (fs : List (PySem.Str × V)), xs = [.ref a, c] ∧ (∀ u, RelV c u → u = cv) ∧ PySem.W.kitOne X.K (.ref D) cv = some b ∧ H dd = some (.xd fs) ∧ Q (.bl b) H) := by
  intro pins s σ H xs us Q I r h
  obtain ⟨c, cv, b, fs, rfl, hcv, e, ed, q⟩ := h
  obtain ⟨u, u2, rfl, ru, ru2⟩ := vals2 r
  cases ru
  have ec := hcv _ ru2
  subst ec
  obtain ⟨hget, _⟩ := I.pin (a, oe) (List.mem_append.mpr (.inl List.mem_cons_self))
  obtain ⟨vs, hv⟩ := hf
  have hx : ObjOk X.prog X.w H s.heap dd (.xd fs) := I.hok dd _ ed
  obtain ⟨mA, hns, _⟩ := hx
  obtain ⟨od, ho, _⟩ := lookIn_ns hns
  have J : PySem.W.InstAt s.heap a oe D (some od) := ⟨hget, hz.1, by unfold PySem.W.notCls; rw [hv] <;> rfl, by rw [hz.2]; exact ho⟩
  have hcl : (PySem.W.clsIn X.K D).isSome = true := by
    obtain ⟨cd, hc, _⟩ := PySem.W.any_some C.hd
    rw [hc] <;> rfl
  exact PySem.W.kia_one (PySem.W.kitx_exc hcl C.hg C.hk C.hs C.ha C.hn C.ht C.hm) I.kIn J e (fun z => nomatch z) fun tk => ⟨.bl b, H, I.kept (t' := tk) fun _ _ z => z, rfl, q⟩
theorem me_isEF {i : Nat} {n : PySem.Str} {a : Addr} {oe : Obj} {cls : Value} {d : Option Addr} {pn : List (Addr × Obj)} {e : Exn} {c : Expr} {cv : Value} {cs : List Nat} {tab : Nat → Bool} {p p2 pos : Pos} (B : Bl (X.suite a ((a, oe) :: pn)) "isinstance" (.builtin "isinstance")) (F : IsEOk X.K T.toTs cs tab cv)
    (hz : Zc cls d oe) (hf : ∃ vs, oe.data = .fields vs) (hc : ClsE (X.suite a ((a, oe) :: pn)) c cv) (hN : X.N[i]? = some n := by rfl) (hv : Vis X.env.scope n := by first | exact Or.inl rfl | exact Or.inr (Or.inl rfl) | exact Or.inr (Or.inr rfl)) (hdb : (n == ("__debug__" : PySem.Str)) = false := by decide) (hcd : (n == ("__classdict__" : PySem.Str)) = false := by decide)
    (hs1 : starEach [.Name n p2, c] X.env = (false, eval (.Name n p2) X.env) :: starEach [c] X.env := by rfl) (hs2 : starEach [c] X.env = (false, eval c X.env) :: starEach [] X.env := by rfl) (hpl : (backTo pos (starEach [c] X.env)).any (·.1) = false := by rfl) :
    ME (X.suite a ((a, oe) :: pn)) (T.addE i a e cls d) Wx (.Call (.Name "isinstance" p) [.Name n p2, c] [] pos) (xIsEF cs tab e) := by
  by_cases hin : cs.contains e.c = true
  · have hce : e.c ∈ cs := by simpa using hin
    obtain ⟨v, hcv, hk⟩ := hc.ex
    have pvn : PE (X.suite a ((a, oe) :: pn)) (.Name n p2) (tVar i) := pe_var hN hv hdb hcd
    refine ⟨fun pins s σ H Q I ⟨W, st, σd, A, h⟩ => ?_⟩
    simp only [xIsEF, hin, if_true] at h
    have r : ExR T.toTs W st H e cls d := (A.slots.pin _ List.mem_cons_self).2
    have hsl := (A.slots.pin _ List.mem_cons_self).1
    obtain ⟨ecl, r2⟩ := r
    subst ecl
    rcases r2 with ⟨_, rfl⟩ | ⟨_, y, vs, rfl, h1, _, _⟩
    · exact (pe_bl' B (call_isE (F.ex _ hce) hz hf) (pa_cons pvn (pa_cons hcv pa_nil hs2) hs1) hs1 hpl).run pins s σ H Q I ⟨.ref a, hsl, v, cv, tab e.c, rfl, fun u ru => hk.eq ru, F.ok _ hce, OutG.now h A.abs (.bl _)⟩
    · exact (pe_bl' B (call_isEd (F.ex _ hce) hz hf) (pa_cons pvn (pa_cons hcv pa_nil hs2) hs1) hs1 hpl).run pins s σ H Q I ⟨.ref a, hsl, v, cv, tab e.c, vs, rfl, fun u ru => hk.eq ru, F.ok _ hce, h1, OutG.now h A.abs (.bl _)⟩
  · refine ⟨fun pins s σ H Q I ⟨W, st, σd, A, h⟩ => ?_⟩
    simp only [xIsEF, hin] at h
    exact False.elim h
/-- what the text says: of these classes the field f is read from the error's own dict -/
structure EFOk (K : PySem.W.Frag) (T : Ts) (cs : List Nat) (f : Nat) : Prop where
  ok : ∀ c ∈ cs, XfC K (T.ca c) ∧ PySem.W.findIn K (.ref (T.ca c)) (T.an f) = some none
  hf : f < T.n
theorem RepF.lookup {T : Ts} {W : Wd} {st : Sto} {H : Hp} : ∀ {fs : List (Nat × D)} {vs : List (PySem.Str × V)} {f : Nat} {d : D}, RepF T W st H fs vs → f < T.n → getF fs f = some d → ∃ v, vs.lookup (T.an f) = some v ∧ Rep T W st H d v
  | _, _, _, _, .nil, _, h => by simp [getF] at h
  | _, _, f, d, .cons (i := i) (v := v) hi hv r, hf, h => by
    unfold getF at h
    by_cases e : i = f
    · subst e
      rw [if_pos rfl] at h
      cases h
      exact ⟨v, by simp [List.lookup], hv⟩
    · rw [if_neg e] at h
      obtain ⟨w, h1, h2⟩ := RepF.lookup r hf h
      refine ⟨w, ?_, h2⟩
      have : (T.an f == T.an i) = false := beq_eq_false_iff_ne.mpr fun z => e (T.inj _ _ hi hf z.symm)
      rw [List.lookup_cons, this]
      exact h1
end
end Mi
end
section
set_option Elab.async false
set_option linter.all false
set_option maxRecDepth 100000
set_option maxHeartbeats 2000000
set_option autoImplicit false
namespace Mi
open PySem PySem.Spec PyProof.Rows L2
/-- the __init__ of the class x as it stands, but for the cell's place -/
abbrev FnC : Type := Option (PySem.Str × PySem.Str × Arguments × FuncBody × Scope × Addr × List PySem.Str × Value × Addr)
def fnC (K : PySem.W.Frag) (x : PySem.Str) : FnC := match K.lookup (He.ma K (He.ga K x) "__init__") with
  | some ⟨_, _, .func fd, _⟩ => some (fd.name, fd.qualname, fd.params, fd.body, fd.scope, fd.globals, fd.closure.map (·.1), fd.defaults, fd.builtins)
  | _ => none
structure ExcD where
  x : PySem.Str
  qual : PySem.Str
  params : Arguments
  body : List Stmt
  scope : Scope
def ExcD.val (d : ExcD) : FnC := some ("__init__", d.qual, d.params, .stmts d.body, d.scope, mainGlobals, ["__class__"], .none, builtinsNs)
def oexB (K : PySem.W.Frag) (C : Addr) : Bool := match K.lookup C with
  | some ⟨.type t, _, .cls cd, sl⟩ => (match cd.mro, sl.toList with
    | .ref C' :: bm, [_, _, _, _, some (.builtin n), _] => decide (t = "type") && (C' == C && (decide (n = "ValueError.__new__") && (!cd.hasDel && (cd.hasDict && PySem.HandSPX.refsVE bm))))
    | _, _ => false)
  | _ => false
def codeB (K : PySem.W.Frag) (file : PySem.Str) (cda : Addr) : Bool := match K.lookup cda with
  | some ⟨_, _, .fields vs, _⟩ => (match (vs[2]? : Option Value) with
    | some (.str f _) => decide (f = file)
    | _ => false)
  | _ => false
def cellB (K : PySem.W.Frag) (C cc : Addr) : Bool := match K.lookup cc with
  | some ⟨_, _, .cell (some (.ref c)), _⟩ => c == C
  | _ => false
def initB (K : PySem.W.Frag) (file qual : PySem.Str) (C fI : Addr) : Bool := match K.lookup fI with
  | some ⟨_, _, .func fd, _⟩ => (match fd.code, fd.closure with
    | .ref cda, [(_, cc)] => PySem.W.codeIn K (.ref cda) qual && (codeB K file cda && cellB K C cc)
    | _, _ => false)
  | _ => false
def clsB (K : PySem.W.Frag) (C fI : Addr) : Bool := (PySem.W.clsIn K C).isSome && (He.eqO (PySem.W.ks_superIn K C C "__init__") (some (some (.builtin "ValueError.__init__"))) && (He.eqO (PySem.W.findIn K (.ref C) "__init__") (some (some (.ref fI))) && (decide (PySem.W.typeIn K (.ref fI) = some (.type "function")) &&
  (oexB K C && (He.eqO (PySem.W.findIn K (.ref C) "__setattr__") (some (some (.builtin "object.__setattr__"))) && (decide (PySem.W.subIn K (.ref C) (.type "BaseException") = some true) && (decide (PySem.W.typeIn K (.ref C) = some (.type "type")) && (PySem.W.keepIn K (.ref C) &&
  (decide (PySem.W.mroIn K C (.ref C) = some true) && (decide (PySem.W.subIn K (.ref C) (.type "ValueError") = some true) && (decide (PySem.W.nsIn K PySem.cStatics "thirdparty.any" = some none) && PySem.W.excInitIn K C veBm "ValueError.__new__")))))))))))
def ExcD.ok (K : PySem.W.Frag) (file : PySem.Str) (d : ExcD) : Bool := initB K file d.qual (He.ga K d.x) (He.ma K (He.ga K d.x) "__init__") && clsB K (He.ga K d.x) (He.ma K (He.ga K d.x) "__init__")
theorem oexB_ok {K : PySem.W.Frag} {C : Addr} (h : oexB K C = true) : ∃ nm q N bs bm sn sub ab col dd k0 k1 k2 k3 k5, K.lookup C = some (excClassObj nm q C N bs bm true sn sub ab col dd k0 k1 k2 k3 k5 "ValueError.__new__") ∧ PySem.HandSPX.refsVE bm = true := by
  unfold oexB at h
  split at h
  · rename_i t dd cd sl ho
    split at h
    · rename_i C' bm k0 k1 k2 k3 n k5 hm hs
      simp only [Bool.and_eq_true, beq_iff_eq, decide_eq_true_eq, Bool.not_eq_true'] at h
      obtain ⟨rfl, rfl, rfl, hdel, hdict, hv⟩ := h
      obtain ⟨nm, bs, mro, ns, qn, hd, sn, sub, ab, col, del⟩ := cd
      dsimp only at hm hdel hdict
      subst hm hdel hdict
      obtain ⟨l⟩ := sl
      simp only at hs
      subst hs
      exact ⟨nm, qn, ns, bs, bm, sn, sub, ab, col, dd, k0, k1, k2, k3, k5, ho, hv⟩
    · cases h
  · cases h
theorem codeB_ok {K : PySem.W.Frag} {file : PySem.Str} {cda : Addr} (h : codeB K file cda = true) : ∃ ccl cdd vs ccs tf, K.lookup cda = some ⟨ccl, cdd, .fields vs, ccs⟩ ∧ vs[2]? = some (.str file tf) := by
  unfold codeB at h
  split at h
  · rename_i ccl cdd vs ccs ho
    split at h
    · rename_i f tf e
      have z : f = file := of_decide_eq_true h
      subst z
      exact ⟨ccl, cdd, vs, ccs, tf, ho, e⟩
    · cases h
  · cases h
theorem cellB_ok {K : PySem.W.Frag} {C cc : Addr} (h : cellB K C cc = true) : ∃ cl cld csl, K.lookup cc = some ⟨cl, cld, .cell (some (.ref C)), csl⟩ := by
  unfold cellB at h
  split at h
  · rename_i a b c d ho
    have z := beq_iff_eq.mp h
    subst z
    exact ⟨_, _, _, ho⟩
  · cases h
theorem supC_of {prog : Program} {K : PySem.W.Frag} {file : PySem.Str} {d : ExcD} {ps : List PySem.Str} {ar : Arg} (e : fnC K d.x = d.val) (c : d.ok K file = true) (hfile : ((prog.main.file : PySem.Str) == file) = true)
    (har : (d.params.posonlyargs ++ d.params.args).head? = some ar) (har2 : ar.arg = "self") (hb : ∀ (kV doc pm : Value) (an : Option Addr) (cdv ct : Value) (cc : Addr) (us : List Value), us.length = ps.length → bindArgs (PySem.W.ksFn "__init__" d.qual d.params d.body d.scope .none kV doc pm an cdv ct cc) ⟨us, []⟩ = pure (ps.zip us))
    (nd : ps.Nodup) (hk : d.scope.kind = .function) (co : d.scope.isCoroutine = false) (gen : d.scope.isGenerator = false) (ks : d.scope.names.lookup ("super" : PySem.Str) = some .globalImplicit) (kc : d.scope.names.lookup ("__class__" : PySem.Str) = some .free)
    (nocell : ∀ x ∈ d.scope.names, x.2 ≠ .cell) (par : ∀ x ∈ ps, d.scope.names.lookup x = some .local) : SupC prog K (He.ga K d.x) (He.ma K (He.ga K d.x) "__init__") ps d.body d.scope := by
  obtain ⟨c1, c2⟩ := He.ba c
  obtain ⟨q1, c2⟩ := He.ba c2
  obtain ⟨q2, c2⟩ := He.ba c2
  obtain ⟨q3, c2⟩ := He.ba c2
  obtain ⟨q4, c2⟩ := He.ba c2
  obtain ⟨q5, c2⟩ := He.ba c2
  obtain ⟨q6, c2⟩ := He.ba c2
  obtain ⟨q7, c2⟩ := He.ba c2
  obtain ⟨q8, c2⟩ := He.ba c2
  obtain ⟨q9, c2⟩ := He.ba c2
  obtain ⟨q10, c2⟩ := He.ba c2
  obtain ⟨q11, c2⟩ := He.ba c2
  obtain ⟨q12, q13⟩ := He.ba c2
  obtain ⟨cdD, hD⟩ := Option.isSome_iff_exists.mp q1
  refine ⟨?_, He.eqO_ok q3, of_decide_eq_true q4, ⟨oexB_ok q5, He.eqO_ok q6, of_decide_eq_true q7, of_decide_eq_true q8, q9⟩, of_decide_eq_true q10, of_decide_eq_true q11, of_decide_eq_true q12, q13, nd, hk, co, gen, ks, kc, nocell, par⟩
  unfold fnC at e
  unfold initB at c1
  cases q : K.lookup (He.ma K (He.ga K d.x) "__init__") with
  | none => rw [q] at c1; cases c1
  | some o =>
    obtain ⟨oc, od, dt, osl⟩ := o
    rw [q] at c1 e
    cases dt with
    | func fd =>
      obtain ⟨n1, n2, n3, n4, n5, n6, n7, n8, n9, n10, n11, n12, n13, n14, n15⟩ := fd
      have e2 : (some (n1, n2, n3, n4, n5, n6, n7.map (·.1), n8, n15) : FnC) = (some (("__init__" : PySem.Str), d.qual, d.params, FuncBody.stmts d.body, d.scope, mainGlobals, [("__class__" : PySem.Str)], Value.none, builtinsNs) : FnC) := e
      simp only [Option.some.injEq, Prod.mk.injEq] at e2
      obtain ⟨h1, h2, h3, h4, h5, h6, h7, h8, h9⟩ := e2
      subst h1 h2 h3 h4 h5 h6 h8 h9
      simp only at c1
      split at c1
      · rename_i cda y cc
        simp only [List.map_cons, List.map_nil, List.cons.injEq, and_true] at h7
        subst h7
        obtain ⟨z1, z2⟩ := He.ba c1
        obtain ⟨z2, z3⟩ := He.ba z2
        obtain ⟨ccl, cdd, vs, ccs, tf, z4, z5⟩ := codeB_ok z2
        obtain ⟨cl, cld, csl, z6⟩ := cellB_ok z3
        exact ⟨oc, od, osl, d.qual, d.params, .none, n9, n10, n11, n12, cda, n14, cc, ccl, cdd, vs, ccs, file, tf, cl, cld, csl, cdD, ar, rfl, z1, z4, z5, hfile, z6, hD, har, har2, fun us hl => hb _ _ _ _ _ _ _ us hl, He.eqO_ok q2⟩
      · cases c1
    | _ => cases c1
/-- what isinstance asks of the class -/
def excCB (K : PySem.W.Frag) (D : Addr) : Bool := He.eqO (PySem.W.findIn K (.ref D) "__getattribute__") (some (some (.builtin "BaseException.__getattribute__"))) && (He.eqO (PySem.W.findIn K (.ref D) "__getattr__") (some none) && (decide (PySem.W.subIn K (.ref D) (.type "BaseException") = some true) && (PySem.W.hasDictIn K D &&
  (He.eqO (PySem.W.findIn K (.ref D) "__class__") (some (some (.builtin "object.__class__"))) && (He.eqO (PySem.W.specialIn K (.builtin "object.__class__") "__get__") (some (some (.builtin "getset_descriptor.__get__"))) && (decide (PySem.W.takesIn K (.builtin "object.__class__") = some true) && decide (PySem.W.mroIn K D (.type "object") = some true)))))))
theorem excCB_ok {K : PySem.W.Frag} {D : Addr} (h : excCB K D = true) : ExcC K D := by
  obtain ⟨h1, h⟩ := He.ba h
  obtain ⟨h2, h⟩ := He.ba h
  obtain ⟨h3, h⟩ := He.ba h
  obtain ⟨h4, h⟩ := He.ba h
  obtain ⟨h5, h⟩ := He.ba h
  obtain ⟨h6, h⟩ := He.ba h
  obtain ⟨h7, h8⟩ := He.ba h
  exact ⟨He.eqO_ok h1, He.eqO_ok h2, of_decide_eq_true h3, h4, He.eqO_ok h5, He.eqO_ok h6, of_decide_eq_true h7, of_decide_eq_true h8⟩
end Mi
end
section
set_option Elab.async false
set_option linter.all false
set_option maxRecDepth 100000
set_option autoImplicit false
namespace Mi
open PySem L2
section
variable {X : Cx} {T : Tb} {Wx : WX} {e : Expr} {es : List Expr} {ma : XA} {p pos : Pos}
theorem me_strc (B : Bl X "str" (.type "str")) (ha : MA X T Wx (e :: es) ma)
    (he : starEach (e :: es) X.env = (false, eval e X.env) :: starEach es X.env := by rfl) (hpl : (backTo pos (starEach es X.env)).any (·.1) = false := by rfl) : ME X T Wx (.Call (.Name "str" p) (e :: es) [] pos) (xB vStr ma) := by
  refine liftB (pe_ty' B call_str_int ha he hpl) ?_
  intro W st H ds d xs Q A r e h
  unfold vStr at e
  split at e
  · split at e
    · rename_i hz
      obtain ⟨x, hx, r0⟩ := reps1 r
      subst hx
      cases r0; cases e
      refine ⟨_, rfl, hz, ?_⟩
      rw [PySem.Str.ofString_eq_toList]
      exact stay A h (.str _)
    · cases e
  · cases e
end
end Mi
end
section
set_option Elab.async false
set_option linter.all false
set_option maxRecDepth 100000
set_option autoImplicit false
set_option maxHeartbeats 2000000
namespace Mi
open PySem PySem.Spec PyProof.Rows L2
section
variable {prog : Program} {w : World} {A : Around} {E : Value → Shared → Prop} {s : Shared}
end
section
variable {X : Cx} {T : Tb} {Wx : WX} {a e : Expr} {te : TE} {ma : XE} {k : Nat} {p1 p2 p3 pos : Pos}
end
end Mi
end
section
set_option Elab.async false
set_option linter.all false
set_option maxRecDepth 100000
set_option autoImplicit false
set_option maxHeartbeats 2000000
namespace Mi
open PySem PySem.Spec PyProof.Rows L2
section
variable {X : Cx} {T : Tb} {Wx : WX} {a b : Expr} {ma mb : XE} {pos : Pos}
end
end Mi
end
section
set_option autoImplicit false
set_option linter.all false
namespace Mi
end Mi
end
section
set_option Elab.async false
set_option linter.all false
set_option maxRecDepth 100000
set_option autoImplicit false
set_option maxHeartbeats 2000000
namespace Mi
open PySem PySem.W
section
variable {prog : Program} {w : World} {A : Around} {E : Value → Shared → Prop} {s : Shared} {a b : Value} {da db : PyData} {as bs : List Addr} {l : Addr} {Q : Value → Shared → Prop}
end
open PyProof.Rows L2
section
variable {X : Cx} {T : Tb} {Wx : WX} {e : Expr} {es : List Expr} {ma : XA} {p pos : Pos}
end
end Mi
end
section
set_option linter.all false
set_option autoImplicit false
namespace Mi
/-- the captured names' slots -/
def maskE (l : List Nat) : Nat → Env → Env
  | _, [] => []
  | i, x :: r => (if l.contains i then x else none) :: maskE l (i + 1) r
def pureE : Env → Bool
  | [] => true
  | none :: r => pureE r
  | some d :: r => d.pure && pureE r
/-- what a lambda does when it is called -/
abbrev Thk := Sto → Out D
def xActL (th : Thk) : XE := fun _ st => th st
/-- g(lambda: m): g runs on a store of its own -/
def xLamP (g : Thk → Thk) (l : List Nat) (m : XE) : XE := fun σ st => if pureE (maskE l 0 σ) then runP (fun _ => g (m (maskE l 0 σ))) [] st else .bad
/-- a def whose one parameter holds a lambda: n names -/
def mkDefL (n : Nat) (b : XS) : Thk := fun st => match b (List.replicate n none) st with
  | .nx _ st' => .ok .non st'
  | .rt d st' => .ok d st'
  | .exc e _ st' => .exc e st'
  | _ => .bad
/-- a tuple or list that repr tells -/
def D.rp : D → Bool
  | .tup xs => (D.tup xs).rok && (D.tup xs).flat 50 && decide ((D.tup xs).wt ≤ 1000000)
  | .lst xs => (D.lst xs).rok && (D.lst xs).flat 50 && decide ((D.lst xs).wt ≤ 1000000)
  | _ => false
end Mi
end
section
set_option Elab.async false
set_option linter.all false
set_option maxRecDepth 100000
set_option autoImplicit false
set_option maxHeartbeats 2000000
namespace Mi
open PySem PySem.Spec PyProof.Rows L2 LamX
/-- the function at f does what th says, from the state (h, H) of its making on -/
structure LamAt (P : Program) (w : World) (K : PySem.W.Frag) (mg : PySem.Str → Option Value) (base : Heap) (T : Tb) (fs : List Addr) (k : Nat) (f : Addr) (H : Hp) (h : Heap) (Pn : Wd → Sto → Hp → Prop) (th : Thk) : Prop where
  obj : ∃ (oc : Value) (od : Option Addr) (fd : FuncData) (sl : Array (Option Value)), h.get? f = some ⟨oc, od, .func fd, sl⟩
  no : H f = none
  nf : f ∉ fs
  run : ∀ (A : Around) (outer : List PySem.Env) (s : Shared) (HZ : Hp) (Q : VK) (E : XK) (W : Wd) (st : Sto), Room k A → Env0 P w K mg base A outer s HZ → Un fs [] H HZ h s.heap → Abs T W st HZ → Pn W st HZ →
    OutG T (Rep T) (fun cls d _ H => E cls d H) [] W st HZ (th st) Q → codeAny (model P w) A (.call (.ref f) ⟨[], []⟩) (CR (L2.CX P w) outer P w HZ s Q E) s
/-- the slot i holds such a function -/
def Tb.addL (T : Tb) (i : Nat) (f : Addr) (Pn : Wd → Sto → Hp → Prop) (mono : ∀ {W W' : Wd} {st st' : Sto} {H H' : Hp}, To W st H W' st' H' → Pn W st H → Pn W' st' H') : Tb := { T with pin := ⟨i, f, Pn, mono⟩ :: T.pin }
/-- a(): the lambda in the slot i is called -/
theorem me_act {Y : Cx} {T : Tb} {Wx : WX} {i k j : Nat} {a : PySem.Str} {f : Addr} {Pn : Wd → Sto → Hp → Prop} {mono : ∀ {W W' : Wd} {st st' : Sto} {H H' : Hp}, To W st H W' st' H' → Pn W st H → Pn W' st' H'} {th : Thk} {p1 p2 : Pos}
    (LA : LamAt Y.prog Y.w Y.K Y.mg Y.base T (frs Y.outer) k f Y.H_0 Y.s_0.heap Pn th) (hex : Y.ex = []) (hr : Room j Y.A) (hk : k ≤ j) (tk : Takes Y Wx) (hN : Y.N[i]? = some a) (hv : Vis Y.env.scope a)
    (hd : (a == ("__debug__" : PySem.Str)) = false := by decide) (hcd : (a == ("__classdict__" : PySem.Str)) = false := by decide) : ME Y (T.addL i f Pn mono) Wx (.Call (.Name a p1) [] [] p2) (xActL th) := by
  refine ⟨fun pins s σ H Q I ⟨W, st, σd, A, h⟩ => ?_⟩
  obtain ⟨hs, hp⟩ := A.slots.pin _ (List.mem_cons_self (a := (⟨i, f, Pn, mono⟩ : Pin)))
  refine wpAny_Call_Name_kw (thn ((pe_var (pos := p1) (i := i) hN hv hd hcd).run pins s σ H (fun v H1 => v = .ref f ∧ H1 = H) I ⟨.ref f, hs, rfl, rfl⟩) fun u s1 ⟨v, H1, I1, r1, e1, e2⟩ => ?_)
  subst e1 e2
  obtain rfl : u = Value.ref f := r1
  have un : Un (frs Y.outer) [] Y.H_0 H1 Y.s_0.heap s1.heap := by
    have q := I1.base
    rw [hex] at q
    exact q
  obtain ⟨oc, od, fd, sl, ho⟩ := LA.obj
  have of1 := un.keep f _ ho LA.no LA.nf (by simp)
  refine PySem.W.callWith_F0 ⟨_, _, _, _, of1⟩ ?_
  have hx : PassesAt (L2.CX Y.prog Y.w) Y σ (WE Wx σ) := passAt tk σ
  refine wpAny_call (codeAny_mono (LA.run Y.A Y.stack s1 H1 Q (WE Wx σ) W st (hr.mono hk) I1.env0 un A.abs hp (OutG.noσ h)) fun r s' hq => ?_)
  cases r with
  | error e => exact hx pins H1 s1 e s' I1 hq
  | ok fl =>
    cases fl with
    | ret u => exact I1.after hq
    | next => exact False.elim hq
    | brk => exact False.elim hq
    | cont => exact False.elim hq
/-- what the mirror g promises of a def whose parameter holds a lambda -/
def LamFok (P : Program) (w : World) (K : PySem.W.Frag) (mg : PySem.Str → Option Value) (base : Heap) (T : Tb) (k : Nat) (g : Thk → Thk) (fa : Addr) : Prop :=
  ∃ (fd : FuncData) (ps : List PySem.Str), PySem.W.keepIn K (.ref fa) = true ∧ Binds K fd ps [] ∧ ps.length = 1 ∧
    ∀ (A : Around) (outer : List PySem.Env) (s : Shared) (H : Hp) (args : Args) (f : Addr) (Q : VK) (E : XK) (W : Wd) (st : Sto) (Pn : Wd → Sto → Hp → Prop) (_ : ∀ {W W' : Wd} {st st' : Sto} {H H' : Hp}, To W st H W' st' H' → Pn W st H → Pn W' st' H') (th : Thk),
      Room (k + 1) A → Env0 P w K mg base A outer s H → BindsTo s fd args (ps.zip [.ref f]) → LamAt P w K mg base T (frs outer) k f H s.heap Pn th → Abs T W st H → Pn W st H → OutG T (Rep T) (fun cls d _ H => E cls d H) [] W st H (g th st) Q →
      codeAny (model P w) A (.call (.ref fa) args) (CR (L2.CX P w) outer P w H s Q E) s
theorem startL_ok {T : Tb} {W : Wd} {st : Sto} {H : Hp} {N : List PySem.Str} {f : Addr} {Pn : Wd → Sto → Hp → Prop} {mono : ∀ {W W' : Wd} {st st' : Sto} {H H' : Hp}, To W st H W' st' H' → Pn W st H → Pn W' st' H'} (hpn : T.pin = []) (hN : 0 < N.length) (hp : Pn W st H) :
    SlotsOk (T.addL 0 f Pn mono) W st H (List.replicate N.length none) (L2.start N [.ref f]) := by
  refine ⟨by simp [L2.start]; omega, fun i d e => ?_, fun p hp' => ?_⟩
  · rw [List.getElem?_replicate] at e
    split at e <;> cases e
  · rcases List.mem_cons.mp hp' with rfl | z
    · exact ⟨rfl, hp⟩
    · rw [hpn] at z
      cases z
/-- THE RULE for such a def -/
theorem fn_defL {P : Program} {w : World} {K : PySem.W.Frag} {mg : PySem.Str → Option Value} {base : Heap} {T : Tb} {x qual : PySem.Str} {params : Arguments} {body : List Stmt} {scope : Scope} {f : Addr} {fd : FuncData} {N ps : List PySem.Str} {k n : Nat} {b : Thk → XS} (F : FunD K x qual params body scope [] [] f fd)
    (hbi : Binds K fd ps []) (S : FnScope N ps scope) (hnp : ps.length = 1) (hn : N.length = n) (h0 : 0 < n) (hT : T.pin = [])
    (hbody : ∀ (cdv : Value) (A : Around) (outer : List PySem.Env) (s : Shared) (H : Hp) (E : XK) (fl : Addr) (Pn : Wd → Sto → Hp → Prop) (mono : ∀ {W W' : Wd} {st st' : Sto} {H H' : Hp}, To W st H W' st' H' → Pn W st H → Pn W' st' H') (th : Thk), Room k (A.deeper (PyProof.Rows.envOfC qual scope s.heap.objs.size f cdv)) →
      LamAt P w K mg base T (frs outer) k fl H s.heap Pn th → MSs (bodyCx P w K mg base N qual scope f cdv A outer s H E) (T.addL 0 fl Pn mono) (bodyWx E) body (b th)) : LamFok P w K mg base T k (fun th => mkDefL n (b th)) f := by
  subst hn
  have kp := F.kp
  obtain ⟨oc, od, dV, kV, doc, pm, an, cdv, ct, osl, rfl, lk, hcd, _, _⟩ := F.ex
  refine ⟨_, ps, kp, hbi, hnp, fun A outer s H args fl Q E W st Pn mono th hr e0 hb LA Ab hp o => ?_⟩
  refine run_ofS (CX := L2.CX P w) (vs := [.ref fl]) (Q := Q) (E := E) lk hcd S hr.toR e0 hb (.cons rfl .nil) (by rw [hnp]; rfl) fun _ => ⟨_, hbody cdv A outer s H E fl Pn mono th (hr.deeper _) LA, W, st, List.replicate N.length none, ⟨Ab, startL_ok hT h0 hp⟩, ?_⟩
  refine OutSt.end (σ := []) (fun _ _ _ _ h => h) ?_
  simp only [mkDefL] at o
  cases e : b th (List.replicate N.length none) st with
  | nx a c => rw [e] at o; exact o
  | rt a c => rw [e] at o; exact o
  | bk a c => rw [e] at o; exact o
  | ct a c => rw [e] at o; exact o
  | exc a c d => rw [e] at o; exact o
  | bad => rw [e] at o; exact o
theorem mask_get {l : List Nat} : ∀ {σd : Env} {n i : Nat} {d : D}, (maskE l n σd)[i]? = some (some d) → pureE (maskE l n σd) = true → σd[i]? = some (some d) ∧ d.pure = true
  | [], _, _, _, h, _ => by simp [maskE] at h
  | x :: r, n, 0, d, h, hp => by
    simp only [maskE, List.getElem?_cons_zero, Option.some.injEq] at h
    simp only [maskE, h, pureE, Bool.and_eq_true] at hp
    split at h
    · subst h
      exact ⟨rfl, hp.1⟩
    · cases h
  | x :: r, n, i + 1, d, h, hp => by
    simp only [maskE, List.getElem?_cons_succ] at h ⊢
    refine mask_get h ?_
    simp only [maskE] at hp
    generalize (if l.contains n = true then x else none) = y at hp
    cases y with
    | none => exact hp
    | some d =>
      simp only [pureE, Bool.and_eq_true] at hp
      exact hp.2
theorem mask_len {l : List Nat} : ∀ {σd : Env} {n : Nat}, (maskE l n σd).length = σd.length
  | [], _ => rfl
  | _ :: r, n => by simp [maskE, mask_len (σd := r)]
/-- the lambda just made does what its body's mirror says -/
theorem lam_at {X : Cx} {T : Tb} {pins : List (Addr × Obj)} {σ : L2.St} {H1 : Hp} {s1 : Shared} {f c' : Addr} {pm ctv : Value} {params : Arguments} {body : Expr} {scope : Scope} {k : Nat} {mb : XE} {σm : Env}
    (I : L2.Inv X pins σ H1 s1) (L : LamS X.env.scope scope)
    (hf : s1.heap.get? f = some (PySem.W.kla_obj "<lambda>" (X.env.qual ++ "<lambda>") params body scope (cloFrom X.env.cells scope.names []) pm c' ctv)) (hfn : H1 f = none) (hfr : f ∉ frs X.stack)
    (hbind : bindArgs (PySem.W.kla_fn "<lambda>" (X.env.qual ++ "<lambda>") params body scope (cloFrom X.env.cells scope.names []) pm (.ref c') ctv) ⟨[], []⟩ = pure [])
    (hbody : ∀ (A : Around) (outer : List PySem.Env) (s : Shared) (H : Hp) (E : XK), Room k (A.deeper (lamEnv X scope s.heap.objs.size f c')) → ME (lamCx X A outer s H E scope f c') T (fun cls d _ H => E cls d H) body mb) :
    LamAt X.prog X.w X.K X.mg X.base T (frs X.stack) (k + 1) f H1 s1.heap (fun W st H => H c' = some (CodeO c' (X.env.qual ++ "<lambda>")) ∧ SlotsOk T W st H σm σ) (mb σm) where
  obj := ⟨_, _, _, _, hf⟩
  no := hfn
  nf := hfr
  run := fun A outer s HZ Q E W st hr e0 un Ab ⟨hc, sl⟩ ho => by
    have of1 := un.keep f _ hf hfn hfr (by simp)
    obtain ⟨⟨oc, vs, t, hoc, hdc, hvc⟩, _, _⟩ := e0.hok c' _ hc
    have lim : s.heap.NoLimit := e0.mod.nolimit.keeps fun b o e => (e0.bs b o e).1
    refine PySem.W.kla_callFunE hr.depth of1 rfl L.co L.gen rfl ⟨c', oc, vs, t, rfl, hoc, hdc, hvc⟩ ?_
    rw [hbind]
    refine wpAny_pure (wpAny_newFunctionEnv (fun y hy => (L.own y hy).2) (fun y hy => absurd hy (by simp)) (fun h₁ hns hsb => ⟨lim.fresh _ hsb, ?_⟩) L.kind)
    have kp : ∀ b o, s.heap.get? b = some o → h₁.get? b = some o := fun b o e => hsb.extBut b o (Nat.ne_of_lt (Heap.lt_size e)) (Heap.get?_push_of_some _ e)
    have J : L2.Inv (lamCx X A outer s HZ E scope f c') [] σ HZ { s with heap := h₁, toks := s.toks + ([] : List (PySem.Str × Value)).length } := lam_start2 I L e0 hr.hd un hns kp
    show codeAny _ _ (.expr body (lamEnv X scope s.heap.objs.size f c')) _ _
    refine PySem.W.kla_codeExpr (wpAny_mono ((hbody A outer s HZ E (hr.deeper _)).run [] _ _ HZ Q J ⟨W, st, σm, ⟨Ab, sl⟩, OutG.noσ ho⟩) (fun v s' hq => ?_) fun e s' hq => hq)
    obtain ⟨v', H', J', rv, q⟩ := hq
    exact ⟨v', H', J'.os, J'.bare, J'.base, J'.hok, rv, q⟩
theorem grow_ext {W : Wd} {st : Sto} {H H1 : Hp} (e : ExtN H H1) : Grow W st H W st H1 :=
  ⟨fun _ h => h, fun _ h => .inl h, List.prefix_refl _, fun a o h _ t => .inl (e a o h t), fun _ h => .inl h, fun a o h t => ⟨o, e a o h t, t⟩⟩
theorem Abs.ext {T : Tb} {W : Wd} {st : Sto} {H H1 : Hp} (A : Abs T W st H) (e : ExtN H H1) (t1 : LamX.Tabs T.tb H1) : Abs T W st H1 :=
  ⟨A.len, fun l c a h1 h2 => (A.cell l c a h1 h2).to ((grow_ext e).to A) fun o h t => e a o h t, A.one, A.out, fun a h => (A.fbt a h).elim fun o q => ⟨o, e a o q.1 q.2, q.2⟩, t1⟩
/-- x(lambda: body) -/
theorem me_lam {X : Cx} {T : Tb} {Wx : WX} {x : PySem.Str} {ga c P : Addr} {k j : Nat} {g : Thk → Thk} {l : List Nat} {params : Arguments} {body : Expr} {scope : Scope} {mb : XE} {p lpos pos : Pos}
    (D : LamFok X.prog X.w X.K X.mg X.base T (k + 1) g ga) (hm : X.mg x = some (.ref ga)) (hg : Gl X x) (hT : T.pin = []) (TB : TabB X.base X.mg c P) (hcode : X.env.code = .ref c) (hmT : (P, X.env.qual ++ "<lambda>") ∈ T.tb) (hu : ∀ p ∈ T.tb, p.1 = P → p.2 = X.env.qual ++ "<lambda>")
    (hr : Room j X.A) (hk : k + 2 ≤ j) (tk : Takes X Wx) (L : LamS X.env.scope scope)
    (hbind : ∀ (q : PySem.Str) (cl : List (PySem.Str × Addr)) (pm cv ctv : Value), bindArgs (PySem.W.kla_fn "<lambda>" q params body scope cl pm cv ctv) ⟨[], []⟩ = pure [])
    (hbody : ∀ (A : Around) (outer : List PySem.Env) (s : Shared) (H : Hp) (E : XK) (f c' : Addr), Room k (A.deeper (lamEnv X scope s.heap.objs.size f c')) → ME (lamCx X A outer s H E scope f c') T (fun cls d _ H => E cls d H) body mb)
    (hdef : defaultsOf params X.env = ([], []) := by rfl) (hdb : (x == ("__debug__" : PySem.Str)) = false := by decide) :
    ME X T Wx (.Call (.Name x p) [.Lambda params body scope lpos] [] pos) (xLamP g l mb) := by
  obtain ⟨fd, ps, kp, hb, hnp, run⟩ := D
  refine ⟨fun pins s σ H Q I ⟨W, st, σd, A, h⟩ => ?_⟩
  simp only [xLamP] at h
  split at h
  · rename_i hp
    refine wpAny_Call_Name_kw (ld_glob I hg hm ?_ hdb)
    refine PySem.W.callWith_K (h₀ := X.base) I.ok.mod.kin kp ?_ (by rfl) (by rfl)
    show wpAny _ _ (spliced ((false, eval (.Lambda params body scope lpos) X.env) :: backTo pos (starEach [] X.env))) _ _ s
    refine Calls.spliced_cons (lam_make2 I TB hcode hmT hu A.abs.tabs hdef (L.has I.ok) fun f c' pm ctv H1 s' I1 eN T1 hf hfn hfr hco => ?_)
    refine Calls.spliced_nil ⟨I1.kIn, ?_⟩
    have g1 : Grow W st H W st H1 := grow_ext eN
    have A1 : Abs T W st H1 := A.abs.ext eN T1
    have S1 : SlotsOk T (W.out st) [] H1 (maskE l 0 σd) σ := by
      refine ⟨by rw [mask_len]; exact A.slots.len, fun i d e => ?_, fun p hp => by rw [hT] at hp; cases hp⟩
      obtain ⟨e1, hpu⟩ := mask_get e hp
      obtain ⟨v, e2, r⟩ := A.slots.get i d e1
      exact ⟨v, e2, Rep.un (n := 0) (fun a q => out_liv.mp q) (fun l a q => absurd q (Nat.not_lt_zero _)) (by rw [← pure_under]; exact hpu) (r.to (g1.to A.abs))⟩
    have hx : PassesAt (L2.CX X.prog X.w) X σ (WE Wx σ) := passAt tk σ
    have o1 : OutG T (Rep T) Wx σ W st H1 (runP (fun _ => g (mb (maskE l 0 σd))) [] st) Q := OutG.shift g1 h
    have bi := hb s' [.ref f] I1.kIn (by rw [List.append_nil, hnp]; rfl)
    rw [List.append_nil] at bi
    refine wpAny_call (codeAny_mono (run X.A X.stack s' H1 ⟨[.ref f], []⟩ f Q (WE Wx σ) (W.out st) [] (fun W st H => H c' = some (CodeO c' (X.env.qual ++ "<lambda>")) ∧ SlotsOk T W st H (maskE l 0 σd) σ) (fun t z => ⟨t.ext _ _ z.1, z.2.to t⟩) (mb (maskE l 0 σd)) (hr.mono hk) I1.env0 bi
      (lam_at I1 L hf hfn hfr (hbind _ _ _ _ _) fun A outer s H E hr2 => hbody A outer s H E f c' hr2) A1.outW ⟨hco, S1⟩ (OutG.noσ (OutG.runP A1 o1))) fun r s2 hq => ?_)
    cases r with
    | error e => exact hx pins H1 s' e s2 I1 hq
    | ok fl =>
      cases fl with
      | ret u => exact I1.after hq
      | next => exact False.elim hq
      | brk => exact False.elim hq
      | cont => exact False.elim hq
  · exact False.elim h
/-- the name of a lambda that the def x makes -/
def lamQ (x : PySem.Str) : PySem.Str := (PyProof.Rows.envOfC x ⟨.function, [], false, false, []⟩ 0 0 .none).qual ++ "<lambda>"
theorem takes_lam {X : Cx} {A : Around} {outer : List PySem.Env} {s : Shared} {H : Hp} {E : XK} {scope : Scope} {f c' : Addr} : Takes (lamCx X A outer s H E scope f c') (fun cls d _ H => E cls d H) := takes_of rfl rfl rfl rfl
/-- THE RULE for a def that makes lambdas: its code object is known -/
theorem fn_defC {P : Program} {w : World} {K : PySem.W.Frag} {mg : PySem.Str → Option Value} {base : Heap} {T : Tb} {x qual : PySem.Str} {params : Arguments} {body : List Stmt} {scope : Scope} {q : He.Defn} {fd : FuncData} {N ps : List PySem.Str} {k np n : Nat} {b : XS} (F : FunD K x qual params body scope [] [] (He.fAd K q) fd) (S : FnScope N ps scope) (hnp : ps.length = np) (hn : N.length = n) (hT : T.pin = [])
    (hbody : ∀ (cdv : Value) (A : Around) (outer : List PySem.Env) (s : Shared) (H : Hp) (E : XK), cdv = .ref (He.cT K q).1 → Room k (A.deeper (PyProof.Rows.envOfC qual scope s.heap.objs.size (He.fAd K q) cdv)) →
      MSs (bodyCx P w K mg base N qual scope (He.fAd K q) cdv A outer s H E) T (bodyWx E) body b) : FnOk P w K mg base (L2.CX P w) (k + 1) (He.fAd K q) fd ps (spM T np (mkDef np n b)) := by
  subst hnp hn
  obtain ⟨oc, od, dV, kV, doc, pm, an, cdv, ct, osl, rfl, lk, hcd, _, _⟩ := F.ex
  obtain ⟨c, rfl⟩ := He.codeIn_ref hcd
  have ec : He.codeOf K q = c := He.codeOf_eq lk rfl
  refine ⟨fun vs H Q E h => h.1, fun A outer s H args us vs Q E hr e0 hb hv h => ?_⟩
  have hl := h.1
  refine run_ofS (CX := L2.CX P w) lk hcd S hr.toR e0 hb hv hl fun _ => ⟨_, hbody (.ref c) A outer s H E (by show Value.ref c = .ref (He.codeOf K q); rw [ec]) (hr.deeper _), ?_⟩
  obtain ⟨_, W, st, ds, Ab, rs, o⟩ := h
  refine ⟨W, st, startV ds N.length, ⟨Ab, startV_ok hT rs⟩, ?_⟩
  simp only [mkDef] at o
  split at o
  · exact OutSt.end (fun _ _ _ _ h => h) o
  · exact False.elim o
theorem lam_hu (P : Addr) (q : PySem.Str) : ∀ p ∈ [(P, q)], p.1 = P → p.2 = q := fun p hp _ => by
  rw [List.mem_singleton.mp hp]
end Mi
end
section
set_option Elab.async false
set_option linter.all false
set_option maxRecDepth 100000
set_option autoImplicit false
set_option maxHeartbeats 2000000
namespace Mi
open PySem PyProof.Rows L2
theorem int_short : ∀ n : Fin 100, (PyData.shown (.int (n.val : Int))).length ≤ 13 := by decide +kernel
theorem int_wt : ∀ n : Fin 100, PyData.weight (.int (n.val : Int)) ≤ 7 := by decide +kernel
theorem int_show : ∀ n : Fin 100, PyData.showable (.int (n.val : Int)) = true := by decide +kernel
theorem int_fin {i : Int} (h : 0 ≤ i ∧ i < 100) : ∃ n : Fin 100, i = (n.val : Int) := ⟨⟨i.toNat, by omega⟩, by show i = ((i.toNat : Nat) : Int); omega⟩
mutual
theorem rok_py : ∀ d : D, d.rok = true → (toPy d).showable = true ∧ (toPy d).leavesShort 13 = true ∧ (toPy d).weight ≤ d.wt ∧ (toPy d).hasDict = false
  | .non, _ => by simp [toPy, PyData.showable, PyData.leavesShort, PyData.weight, PyData.hasDict]
  | .bl _, _ => by simp [toPy, PyData.showable, PyData.leavesShort, PyData.weight, PyData.hasDict]
  | .int i, h => by
    simp only [D.rok, decide_eq_true_eq] at h
    obtain ⟨n, rfl⟩ := int_fin h
    refine ⟨int_show n, ?_, int_wt n, by simp only [toPy, PyData.hasDict]⟩
    simp only [toPy, PyData.leavesShort, decide_eq_true_eq]
    exact int_short n
  | .str s, h => by
    simp only [D.rok, List.all_eq_true, decide_eq_true_eq] at h
    refine ⟨by simp only [toPy, PyData.showable], ?_, by simp [toPy, PyData.weight, D.wt, strOf], by simp only [toPy, PyData.hasDict]⟩
    simp only [toPy, PyData.leavesShort, strOf, List.all_eq_true, decide_eq_true_eq]
    intro c hc
    have := h c (by simpa using hc)
    omega
  | .tup xs, h => by
    obtain ⟨a, b, c, e⟩ := rokL_py xs (by simpa [D.rok] using h)
    simp only [toPy, PyData.showable, PyData.leavesShort, PyData.weight, PyData.hasDict, D.wt]
    exact ⟨a, b, c, e⟩
  | .lst xs, h => by
    obtain ⟨a, b, c, e⟩ := rokL_py xs (by simpa [D.rok] using h)
    simp only [toPy, PyData.showable, PyData.leavesShort, PyData.weight, PyData.hasDict, D.wt]
    exact ⟨a, b, c, e⟩
  | .dct _, h => by simp [D.rok] at h
  | .ins _ _, h => by simp [D.rok] at h
  | .loc _, h => by simp [D.rok] at h
  | .scr _, h => by simp [D.rok] at h
  | .exn, h => by simp [D.rok] at h
theorem rokL_py : ∀ ds : List D, rokL ds = true → PyData.showableAll (toPyL ds) = true ∧ PyData.leavesShortAll 13 (toPyL ds) = true ∧ PyData.weightAll (toPyL ds) ≤ wtL ds ∧ PyData.hasDictAll (toPyL ds) = false
  | [], _ => by simp [toPyL, PyData.showableAll, PyData.leavesShortAll, PyData.weightAll, PyData.hasDictAll]
  | d :: ds, h => by
    simp only [rokL, Bool.and_eq_true] at h
    obtain ⟨a, b, c, e⟩ := rok_py d h.1
    obtain ⟨a', b', c', e'⟩ := rokL_py ds h.2
    simp only [toPyL, PyData.showableAll, PyData.leavesShortAll, PyData.weightAll, PyData.hasDictAll, wtL, a, b, e, a', b', e', Bool.and_self, Bool.or_self]
    refine ⟨trivial, trivial, ?_, trivial⟩
    omega
end
/-- what repr asks -/
def RpOk (K : PySem.W.Frag) (H : Hp) (x : V) (p : PyData) : Prop := ∃ a, x = .ref a ∧ Dp K H x p ∧ p.showable = true ∧ p.hasDict = false ∧ p.shown.length ≤ sizeLine ∧ p.depth ≤ 50
theorem rp_ok {K : PySem.W.Frag} {T : Tb} {W : Wd} {st : Sto} {H : Hp} {d : D} {v : V} (h : d.rp = true) (r : Rep T W st H d v) : RpOk K H v (toPy d) := by
  have key : d.rok = true ∧ d.flat 50 = true ∧ d.wt ≤ 1000000 ∧ ∃ a, v = .ref a := by
    cases r <;> simp [D.rp] at h
    · exact ⟨h.1.1, h.1.2, h.2, _, rfl⟩
    · exact ⟨h.1.1, h.1.2, h.2, _, rfl⟩
  obtain ⟨h1, h2, h3, a, rfl⟩ := key
  obtain ⟨b1, b2, b3, b4⟩ := rok_py d h1
  exact ⟨a, rfl, r.dp 50 h2, b1, b4, PyData.shown_fits (by decide) (by decide) b2 (by omega), (canLay_of 50 d h2).2⟩
section
variable {X : Cx} {T : Tb} {Wx : WX} {a b : Expr} {ma mb : XE} {p1 p2 p3 p4 pos : Pos}
def rRepr (K : PySem.W.Frag) : List V → Hp → VK → Prop := fun xs H Q => ∃ p, (∃ x, xs = [x] ∧ RpOk K H x p) ∧ Q (.str p.shown) H
theorem call_repr (hg : X.A.guards = some []) (hu : X.A.units + 64 < cLine) : CallR X (.builtin "repr") (rRepr X.K) := by
  intro pins s σ H xs us Q I r h
  obtain ⟨p, ⟨x, rfl, a, rfl, hd, h1, h2, h3, h4⟩, q⟩ := h
  cases r with
  | cons ru rn =>
    cases rn
    obtain ⟨as, rd⟩ := Dp.reads I _ _ _ hd ru
    cases ru
    exact repr_of_reads' rd h1 (fun z => by rw [h2] at z; cases z) hg (by omega) (fun _ _ e => e) (fun h' u tk k => ⟨.str p.shown, H, I.kept k, ⟨u, rfl⟩, q⟩) h3
end
end Mi
end
section
set_option linter.all false
set_option autoImplicit false
namespace Mi
/-- a small number's digits -/
def shI (i : Int) : List Nat := if i < 10 then [48 + i.toNat] else [48 + i.toNat / 10, 48 + i.toNat % 10]
mutual
/-- the text that repr tells -/
def D.sh : D → List Nat
  | .non => [78, 111, 110, 101]
  | .bl b => if b then [84, 114, 117, 101] else [70, 97, 108, 115, 101]
  | .int i => shI i
  | .str s => 39 :: (s ++ [39])
  | .tup xs => 40 :: (shJ xs ++ (if xs.length = 1 then [44, 41] else [41]))
  | .lst xs => 91 :: (shJ xs ++ [93])
  | _ => []
def shJ : List D → List Nat
  | [] => []
  | x :: r => x.sh ++ shR r
def shR : List D → List Nat
  | [] => []
  | x :: r => 44 :: 32 :: (x.sh ++ shR r)
end
mutual
/-- whose texts are small letters -/
def D.shk : D → Bool
  | .str s => s.all fun c => decide (97 ≤ c) && decide (c ≤ 122)
  | .tup xs => shkL xs
  | .lst xs => shkL xs
  | _ => true
def shkL : List D → Bool
  | [] => true
  | x :: xs => x.shk && shkL xs
end
/-- repr(a) -/
def vRepr (_ : Sto) (ds : List D) : Option D := match ds with
  | [d] => if d.rp = true ∧ d.shk = true then some (.str d.sh) else none
  | _ => none
/-- a text that repr tells -/
def D.rpt : D → Bool
  | .str s => (s.all fun c => decide (c < 1114112)) && decide (s.length ≤ 1000000)
  | _ => false
/-- repr(a) != repr(b), of two texts that are one -/
def xReprNeT (ma mb : XE) : XE := fun σ st => (ma σ st).bind fun x st1 => if (x.rp || x.rpt) = true then (mb σ st1).bind fun y st2 => if x.same y = true then .ok (.bl false) st2 else .bad else .bad
end Mi
end
section
set_option Elab.async false
set_option linter.all false
set_option maxRecDepth 100000
set_option autoImplicit false
set_option maxHeartbeats 2000000
namespace Mi
open PySem PyProof.Rows L2
theorem int_shown : ∀ n : Fin 100, (PyData.shown (.int (n.val : Int))).cps.toList = shI (n.val : Int) := by decide +kernel
theorem char_shown : ∀ n : Fin 26, PySem.Builtin.Str.reprChar 39 (97 + n.val) = [97 + n.val] := by decide +kernel
theorem str_eq {a b : PySem.Str} (h : a.cps.toList = b.cps.toList) : a = b := by
  cases a; cases b
  exact congrArg _ (Array.toList_inj.mp h)
theorem fold_repr : ∀ (l : List Nat) (acc : Array Nat), (l.all fun c => decide (97 ≤ c) && decide (c ≤ 122)) = true → (l.foldl (fun out c => out ++ (PySem.Builtin.Str.reprChar 39 c).toArray) acc).toList = acc.toList ++ l
  | [], acc, _ => by simp
  | c :: r, acc, h => by
    simp only [List.all_cons, Bool.and_eq_true, decide_eq_true_eq] at h
    have e : PySem.Builtin.Str.reprChar 39 c = [c] := by
      have := char_shown ⟨c - 97, by omega⟩
      have z : 97 + (c - 97) = c := by omega
      simpa only [z] using this
    rw [List.foldl_cons, fold_repr r _ h.2, e]
    simp
theorem str_shown {s : List Nat} (h : (s.all fun c => decide (97 ≤ c) && decide (c ≤ 122)) = true) : (PySem.reprText (strOf s)).cps.toList = 39 :: (s ++ [39]) := by
  have n : (strOf s).cps.contains 39 = false := by
    rw [← Bool.not_eq_true]
    intro z
    have : 39 ∈ s := by simpa [strOf] using z
    have := (List.all_eq_true.mp h) 39 this
    simp at this
  have q : PySem.reprQuote (strOf s) = 39 := by unfold PySem.reprQuote; rw [n]; rfl
  unfold PySem.reprText
  rw [q]
  show ((s.toArray.foldl (fun out c => out ++ (PySem.Builtin.Str.reprChar 39 c).toArray) #[39]).push 39).toList = _
  rw [Array.toList_push, ← Array.foldl_toList, fold_repr s _ h]
  simp
theorem app_cps (a b : PySem.Str) : (a ++ b).cps.toList = a.cps.toList ++ b.cps.toList := by
  show (a.cps ++ b.cps).toList = _
  simp
def joinC : List (List Nat) → List Nat
  | [] => []
  | [x] => x
  | x :: y :: r => x ++ [44, 32] ++ joinC (y :: r)
theorem join_cps : ∀ ts : List PySem.Str, (PySem.Str.join ", " ts).cps.toList = joinC (ts.map (·.cps.toList))
  | [] => rfl
  | [x] => rfl
  | x :: y :: r => by
    show ((x ++ ", " ++ PySem.Str.join ", " (y :: r)).cps.toList) = x.cps.toList ++ [44, 32] ++ joinC ((y :: r).map (·.cps.toList))
    rw [app_cps, app_cps, join_cps (y :: r)]
    have e : ((", " : String) : PySem.Str).cps.toList = [44, 32] := by decide +kernel
    rw [e]
theorem shJ_join : ∀ xs : List D, shJ xs = joinC (xs.map D.sh)
  | [] => by simp [shJ, joinC]
  | [x] => by simp [shJ, shR, joinC]
  | x :: y :: r => by
    have ih := shJ_join (y :: r)
    simp only [shJ] at ih
    simp only [shJ, shR, List.map_cons, joinC]
    rw [List.map_cons] at ih
    rw [← ih]
    simp
mutual
theorem sh_shown : ∀ d : D, d.rok = true → d.shk = true → (PyData.shown (toPy d)).cps.toList = d.sh
  | .non, _, _ => by simp only [toPy, PyData.shown, D.sh]; decide +kernel
  | .bl b, _, _ => by cases b <;> (simp only [toPy, PyData.shown, D.sh]; decide +kernel)
  | .int i, h, _ => by
    simp only [D.rok, decide_eq_true_eq] at h
    obtain ⟨n, rfl⟩ := int_fin h
    simp only [toPy, D.sh]
    exact int_shown n
  | .str s, _, h => by
    simp only [D.shk] at h
    simp only [toPy, PyData.shown, D.sh]
    exact str_shown h
  | .tup xs, h, k => by
    have e := sh_shownL xs (by simpa [D.rok] using h) (by simpa [D.shk] using k)
    simp only [toPy, PyData.shown, D.sh, PySem.tupleText, app_cps, join_cps]
    rw [e, shJ_join]
    have e1 : ((("(" : String) : PySem.Str)).cps.toList = [40] := by decide +kernel
    have e2 : ((",)" : String) : PySem.Str).cps.toList = [44, 41] := by decide +kernel
    have e3 : ((")" : String) : PySem.Str).cps.toList = [41] := by decide +kernel
    have el : (PyData.shownAll (toPyL xs)).length = xs.length := by
      have := congrArg List.length e
      simpa using this
    rw [e1, el]
    by_cases z : xs.length = 1
    · simp only [z, beq_self_eq_true, if_true, e2]; simp
    · have z' : (xs.length == 1) = false := beq_eq_false_iff_ne.mpr z
      simp only [z, z', Bool.false_eq_true, if_false, e3]; simp
  | .lst xs, h, k => by
    have e := sh_shownL xs (by simpa [D.rok] using h) (by simpa [D.shk] using k)
    simp only [toPy, PyData.shown, D.sh, listText_eq_join, app_cps, join_cps]
    rw [e, shJ_join]
    have e1 : ((("[" : String) : PySem.Str)).cps.toList = [91] := by decide +kernel
    have e3 : (("]" : String) : PySem.Str).cps.toList = [93] := by decide +kernel
    rw [e1, e3]; simp
  | .dct _, h, _ => by simp [D.rok] at h
  | .ins _ _, h, _ => by simp [D.rok] at h
  | .loc _, h, _ => by simp [D.rok] at h
  | .scr _, h, _ => by simp [D.rok] at h
  | .exn, h, _ => by simp [D.rok] at h
theorem sh_shownL : ∀ ds : List D, rokL ds = true → shkL ds = true → (PyData.shownAll (toPyL ds)).map (·.cps.toList) = ds.map D.sh
  | [], _, _ => by simp [toPyL, PyData.shownAll]
  | d :: ds, h, k => by
    simp only [rokL, shkL, Bool.and_eq_true] at h k
    simp only [toPyL, PyData.shownAll, List.map_cons]
    rw [sh_shown d h.1 k.1, sh_shownL ds h.2 k.2]
end
theorem rp_rok {d : D} (h : d.rp = true) : d.rok = true := by
  cases d <;> simp [D.rp] at h
  · exact h.1.1
  · exact h.1.1
section
variable {X : Cx} {T : Tb} {Wx : WX} {a b : Expr} {ma mb : XE} {p1 p2 p3 p4 pos : Pos}
theorem me_repr {e : Expr} {es : List Expr} {ma : XA} (hg : X.A.guards = some []) (hu : X.A.units + 64 < cLine) (B : Bl X "repr" (.builtin "repr")) (ha : MA X T Wx (e :: es) ma)
    (he : starEach (e :: es) X.env = (false, eval e X.env) :: starEach es X.env := by rfl) (hpl : (backTo p2 (starEach es X.env)).any (·.1) = false := by rfl) : ME X T Wx (.Call (.Name "repr" p1) (e :: es) [] p2) (xB vRepr ma) := by
  refine liftB (pe_bl' B (call_repr hg hu) ha he hpl) ?_
  intro W st H ds d xs Q A r e h
  unfold vRepr at e
  split at e
  · rename_i d0
    split at e
    · rename_i hz
      obtain ⟨x, hx, r0⟩ := reps1 r
      subst hx
      cases e
      refine ⟨_, ⟨x, rfl, rp_ok hz.1 r0⟩, ?_⟩
      have z : PyData.shown (toPy d0) = strOf d0.sh := str_eq (sh_shown d0 (rp_rok hz.1) hz.2)
      rw [z]
      exact stay A h (.str _)
    · cases e
  · cases e
/-- what repr asks, a text too -/
def RpT (K : PySem.W.Frag) (H : Hp) (x : V) (p : PyData) : Prop := RpOk K H x p ∨ ∃ s : List Nat, x = .str (strOf s) ∧ p = .str (strOf s) ∧ (s.all fun c => decide (c < 1114112)) = true ∧ s.length ≤ 1000000
def rReprT (K : PySem.W.Frag) : List V → Hp → VK → Prop := fun xs H Q => ∃ p, (∃ x, xs = [x] ∧ RpT K H x p) ∧ Q (.str p.shown) H
theorem call_reprT (hg : X.A.guards = some []) (hu : X.A.units + 64 < cLine) : CallR X (.builtin "repr") (rReprT X.K) := by
  intro pins s σ H xs us Q I r h
  obtain ⟨p, ⟨x, rfl, h0⟩, q⟩ := h
  rcases h0 with h0 | ⟨t, rfl, rfl, h1, h2⟩
  · exact call_repr hg hu _ _ _ _ _ _ _ I r ⟨p, ⟨x, rfl, h0⟩, q⟩
  · obtain ⟨u, rfl, tk, rfl⟩ := vals1 r
    refine PySem.P.repr_of_str ⟨.str _, H, I.tok _, ⟨_, rfl⟩, q⟩ ?_
    have := PySem.StrLaws.reprText_len (strOf t) (fun c hc => by
      have := (List.all_eq_true.mp h1) c (by simpa [strOf] using hc)
      simp only [decide_eq_true_eq] at this
      omega)
    have e : (strOf t).length = t.length := rfl
    rw [e] at this
    rw [sizeLine_eq]
    omega
theorem pe_reprT {ta : TE} (hg : X.A.guards = some []) (hu : X.A.units + 64 < cLine) (B : Bl X "repr" (.builtin "repr")) (ha : PE X a ta) (he : starEach [a] X.env = (false, eval a X.env) :: starEach [] X.env := by rfl) (hpl : (backTo p2 (starEach [] X.env)).any (·.1) = false := by rfl) :
    PE X (.Call (.Name "repr" p1) [a] [] p2) (tCB (rReprT X.K) (tCons ta tNil)) := pe_bl' B (call_reprT hg hu) (pa_cons ha pa_nil he) he hpl
theorem rpt_ok {K : PySem.W.Frag} {T : Tb} {W : Wd} {st : Sto} {H : Hp} {d : D} {v : V} (h : (d.rp || d.rpt) = true) (r : Rep T W st H d v) : RpT K H v (toPy d) := by
  rcases Bool.or_eq_true _ _ |>.mp h with h | h
  · exact .inl (rp_ok h r)
  · cases d with
    | str s =>
      cases r
      simp only [D.rpt, Bool.and_eq_true, decide_eq_true_eq] at h
      exact .inr ⟨s, rfl, by simp only [toPy], h.1, h.2⟩
    | _ => simp [D.rpt] at h
theorem reprT_cmp {σ : L2.St} {H : Hp} {Q : VK} {W : Wd} {st : Sto} {σd : Env} (A : At T σ W st H σd) (h : OutG T (Rep T) Wx σ W st H (xReprNeT ma mb σd st) Q) :
    tOp rNe (tCB (rReprT X.K) (tCons (lE T Wx ma) tNil)) (tCB (rReprT X.K) (tCons (lE T Wx mb) tNil)) σ H Q := by
  unfold xReprNeT at h
  refine step A h fun W1 st1 H1 da x a1 g1 r1 h1 => ?_
  split at h1
  · rename_i hp
    refine ⟨_, ⟨x, rfl, rpt_ok hp r1⟩, ?_⟩
    refine step a1 h1 fun W2 st2 H2 db y a2 g2 r2 h2 => ?_
    split at h2
    · rename_i hs
      have e := (D.same_iff _ _).mp hs
      subst e
      refine ⟨_, ⟨y, rfl, rpt_ok hp r2⟩, ?_⟩
      refine ⟨rfl, ?_⟩
      have q := h2 W2 H2 (.bl false) (Grow.refl _ _ _) a2.abs (.bl false)
      simpa using q
    · exact False.elim h2
  · exact False.elim h1
theorem mt_reprNeT (hg : X.A.guards = some []) (hu : X.A.units + 64 < cLine) (B : Bl X "repr" (.builtin "repr")) (ha : ME X T Wx a ma) (hb : ME X T Wx b mb) (hm : behindInMarks .NotEq (.Call (.Name "repr" p3) [b] [] p4) = false := by rfl)
    (he : starEach [a] X.env = (false, eval a X.env) :: starEach [] X.env := by rfl) (he2 : starEach [b] X.env = (false, eval b X.env) :: starEach [] X.env := by rfl) : MT X T Wx (.Compare (.Call (.Name "repr" p1) [a] [] p2) [.NotEq] [.Call (.Name "repr" p3) [b] [] p4] pos) (tV (xReprNeT ma mb)) := by
  refine PT.imp (pt_cmpR op_ne (pe_reprT hg hu B ha he) (pe_reprT hg hu B hb he2) hm) fun σ H Q ⟨W, st, σd, A, h⟩ => ?_
  refine reprT_cmp (Wx := Wx) (ma := ma) (mb := mb) A ?_
  unfold tV at h
  cases e : xReprNeT ma mb σd st with
  | bad => rw [e] at h; exact h
  | exc x s => rw [e] at h; exact h
  | ok d s =>
    have hd : d = .bl false := by
      unfold xReprNeT at e
      cases e1 : ma σd st with
      | bad => rw [e1] at e; cases e
      | exc x s => rw [e1] at e; cases e
      | ok x s1 =>
        rw [e1] at e
        simp only [Out.bind_ok] at e
        split at e
        · cases e2 : mb σd s1 with
          | bad => rw [e2] at e; cases e
          | exc x s => rw [e2] at e; cases e
          | ok y s2 =>
            rw [e2] at e
            simp only [Out.bind_ok] at e
            split at e
            · cases e; rfl
            · cases e
        · cases e
    subst hd
    rw [e] at h
    intro W' H' v g A' r
    cases r
    exact ⟨false, rfl, h W' H' false g A' rfl⟩
end
end Mi
end
section
set_option linter.all false
set_option autoImplicit false
namespace Mi
def m_is_integer : Fn := mkDef 1 1 (sRet (xAnd (xUn (vIsT [] [.int]) (xVar 0)) (xNot (xUn (vIsT [] [.bool]) (xVar 0)))))
def m_is_within : Fn := mkDef 3 3 (sRet (xAnd (xCallP 1 m_is_integer (xCons (xVar 0) xNil)) (xChain vLe vLe (xVar 1) (xVar 0) (xVar 2))))
def m_is_one_of : Fn := mkDef 2 2 (sRet (xAnd (xUn (vIsT [] [.str]) (xVar 0)) (xOp vIn (xVar 0) (xVar 1))))
def m_parts_in : Nat → Fn
  | 0 => fnBad
  | n + 1 => mkDef 3 6 (sSeq (sIf (tV (xOp vLt (xVar 2) (xC (.int 1))))
 (sRet (xUn vNeg (xC (.int 1))))
 sNext)
 (sSeq (sIf (tV (xCallP 1 m_is_integer (xCons (xVar 0) xNil)))
 (sRet (xIf (tV (xCallP 3 m_is_within (xCons (xVar 0) (xCons (xC (.int 0)) (xCons (xOp vSub (xVar 1) (xC (.int 1))) xNil))))) (xC (.int 1)) (xUn vNeg (xC (.int 1)))))
 sNext)
 (sSeq (sIf (tOr (tNot (tV (xUn (vIsT [] [.tuple]) (xVar 0)))) (tOr (tV (xOp vEq (xB vLen (xCons (xVar 0) xNil)) (xC (.int 0)))) (tNot (tV (xCallP 2 m_is_one_of (xCons (xOp vIx (xVar 0) (xC (.int 0))) (xCons (xTup (xCons (xC (.str [102, 117, 110])) (xCons (xC (.str [117, 115, 101])) xNil))) xNil)))))))
 (sRet (xUn vNeg (xC (.int 1))))
 sNext)
 (sSeq (sIf (tV (xOp vNe (xB vLen (xCons (xVar 0) xNil)) (xIf (tV (xOp vEq (xOp vIx (xVar 0) (xC (.int 0))) (xC (.str [102, 117, 110])))) (xC (.int 2)) (xC (.int 3)))))
 (sRet (xUn vNeg (xC (.int 1))))
 sNext)
 (sSeq (sIf (tV (xOp vEq (xOp vIx (xVar 0) (xC (.int 0))) (xC (.str [102, 117, 110]))))
 (sSeq (sAsg (xCallP 3 (m_parts_in n) (xCons (xOp vIx (xVar 0) (xC (.int 1))) (xCons (xOp vAdd (xVar 1) (xC (.int 1))) (xCons (xOp vSub (xVar 2) (xC (.int 1))) xNil)))) (gVar 3))
 (sRet (xIf (tV (xOp vLt (xVar 3) (xC (.int 0)))) (xUn vNeg (xC (.int 1))) (xOp vAdd (xVar 3) (xC (.int 1))))))
 sNext)
 (sSeq (sAsg (xCallP 3 (m_parts_in n) (xCons (xOp vIx (xVar 0) (xC (.int 1))) (xCons (xVar 1) (xCons (xOp vSub (xVar 2) (xC (.int 1))) xNil)))) (gVar 4))
 (sSeq (sAsg (xIf (tV (xOp vGe (xVar 4) (xC (.int 0)))) (xCallP 3 (m_parts_in n) (xCons (xOp vIx (xVar 0) (xC (.int 2))) (xCons (xVar 1) (xCons (xOp vSub (xOp vSub (xVar 2) (xC (.int 1))) (xVar 4)) xNil)))) (xUn vNeg (xC (.int 1)))) (gVar 5))
 (sRet (xIf (tV (xOp vLt (xVar 5) (xC (.int 0)))) (xUn vNeg (xC (.int 1))) (xOp vAdd (xOp vAdd (xVar 4) (xVar 5)) (xC (.int 1))))))))))))
def m_times_in : Nat → Fn
  | 0 => fnBad
  | n + 1 => mkDef 2 3 (sSeq (sIf (tV (xCallP 1 m_is_integer (xCons (xVar 0) xNil)))
 (sRet (xB vInt (xCons (xOp vEq (xVar 0) (xVar 1)) xNil)))
 sNext)
 (sRet (xB vSum (xCons (xFrz (xComp [2] (iAny (xSl (xVar 0) (oSome (xC (.int 1))) oNone)) (gVar 2) tTrue (xCallP 2 (m_times_in n) (xCons (xVar 2) (xCons (xVar 1) xNil))))) xNil))))
def m_all_once : Nat → Fn
  | 0 => fnBad
  | n + 1 => mkDef 2 2 (sSeq (sIf (tV (xCallP 1 m_is_integer (xCons (xVar 0) xNil)))
 (sRet (xC (.bl true)))
 sNext)
 (sSeq (sIf (tV (xOp vEq (xOp vIx (xVar 0) (xC (.int 0))) (xC (.str [102, 117, 110]))))
 (sRet (xAnd (xOp vLe (xCallP 2 (m_times_in 30) (xCons (xOp vIx (xVar 0) (xC (.int 1))) (xCons (xVar 1) xNil))) (xC (.int 1))) (xCallP 2 (m_all_once n) (xCons (xOp vIx (xVar 0) (xC (.int 1))) (xCons (xOp vAdd (xVar 1) (xC (.int 1))) xNil)))))
 sNext)
 (sRet (xAnd (xCallP 2 (m_all_once n) (xCons (xOp vIx (xVar 0) (xC (.int 1))) (xCons (xVar 1) xNil))) (xCallP 2 (m_all_once n) (xCons (xOp vIx (xVar 0) (xC (.int 2))) (xCons (xVar 1) xNil)))))))
def m_is_affine : Fn := mkDef 1 1 (sRet (xAnd (xOp vGt (xCallP 3 (m_parts_in 30) (xCons (xVar 0) (xCons (xC (.int 0)) (xCons (xC (.int (60))) xNil)))) (xC (.int 0))) (xCallP 2 (m_all_once 30) (xCons (xVar 0) (xCons (xC (.int 0)) xNil)))))
def m_check_affine : Fn := mkDef 1 1 (sIf (tNot (tV (xCallP 1 m_is_affine (xCons (xVar 0) xNil))))
 (sRaise 2 [] xNil)
 sNext)
def m_terms_with : Nat → Fn
  | 0 => fnBad
  | n + 1 => mkDef 2 7 (sSeq (sIf (tV (xOp vEq (xVar 0) (xC (.int 1))))
 (sRet (xFrz (xRgL (xRg1 (xVar 1)))))
 sNext)
 (sSeq (sAsg (xLive (xComp [5] (iAny (xCallP 2 (m_terms_with n) (xCons (xOp vSub (xVar 0) (xC (.int 1))) (xCons (xOp vAdd (xVar 1) (xC (.int 1))) xNil)))) (gVar 5) tTrue (xTup (xCons (xC (.str [102, 117, 110])) (xCons (xVar 5) xNil))))) (gVar 2))
 (sSeq (sFor (iRange2 (xCons (xC (.int 1)) (xCons (xOp vSub (xVar 0) (xC (.int 1))) xNil))) (gVar 3)
 (sFor (iAny (xCallP 2 (m_terms_with n) (xCons (xVar 3) (xCons (xVar 1) xNil)))) (gVar 4)
 (sDrop (xM Cell.isLst mExtend (xVar 2) (xCons (xFrz (xComp [6] (iAny (xCallP 2 (m_terms_with n) (xCons (xOp vSub (xOp vSub (xVar 0) (xC (.int 1))) (xVar 3)) (xCons (xVar 1) xNil)))) (gVar 6) tTrue (xTup (xCons (xC (.str [117, 115, 101])) (xCons (xVar 4) (xCons (xVar 6) xNil)))))) xNil)))))
 (sRet (xFz (xVar 2))))))
def m_all_terms : Fn := mkDef 1 2 (sSeq (sIf (tNot (tV (xCallP 3 m_is_within (xCons (xVar 0) (xCons (xC (.int 1)) (xCons (xC (.int 7)) xNil))))))
 (sRaise 1 [] xNil)
 sNext)
 (sRet (xLive (xComp [1] (iAny (xCallP 2 (m_terms_with 8) (xCons (xVar 0) (xCons (xC (.int 0)) xNil)))) (gVar 1) (tV (xCallP 2 (m_all_once 30) (xCons (xVar 1) (xCons (xC (.int 0)) xNil)))) (xVar 1)))))
def m_affine_text_in : Nat → Fn
  | 0 => fnBad
  | n + 1 => mkDef 2 4 (sSeq (sIf (tV (xCallP 1 m_is_integer (xCons (xVar 0) xNil)))
 (sRet (xOp vAdd (xC (.str [120])) (xB vStr (xCons (xVar 0) xNil))))
 sNext)
 (sSeq (sIf (tV (xOp vEq (xOp vIx (xVar 0) (xC (.int 0))) (xC (.str [102, 117, 110]))))
 (sRet (xOp vAdd (xOp vAdd (xOp vAdd (xC (.str [92, 120])) (xB vStr (xCons (xVar 1) xNil))) (xC (.str [46, 32]))) (xCallP 2 (m_affine_text_in n) (xCons (xOp vIx (xVar 0) (xC (.int 1))) (xCons (xOp vAdd (xVar 1) (xC (.int 1))) xNil)))))
 sNext)
 (sSeq (sPar [2, 3] (xCons (xCallP 2 (m_affine_text_in n) (xCons (xOp vIx (xVar 0) (xC (.int 1))) (xCons (xVar 1) xNil))) (xCons (xCallP 2 (m_affine_text_in n) (xCons (xOp vIx (xVar 0) (xC (.int 2))) (xCons (xVar 1) xNil))) xNil)))
 (sSeq (sIf (tAnd (tNot (tV (xCallP 1 m_is_integer (xCons (xOp vIx (xVar 0) (xC (.int 1))) xNil)))) (tV (xOp vEq (xOp vIx (xOp vIx (xVar 0) (xC (.int 1))) (xC (.int 0))) (xC (.str [102, 117, 110])))))
 (sAsg (xOp vAdd (xOp vAdd (xC (.str [40])) (xVar 2)) (xC (.str [41]))) (gVar 2))
 sNext)
 (sRet (xOp vAdd (xOp vAdd (xVar 2) (xC (.str [32]))) (xIf (tV (xCallP 1 m_is_integer (xCons (xOp vIx (xVar 0) (xC (.int 2))) xNil))) (xVar 3) (xOp vAdd (xOp vAdd (xC (.str [40])) (xVar 3)) (xC (.str [41]))))))))))
def m_affine_text : Fn := mkDef 1 1 (sSeq (sDrop (xCallP 1 m_check_affine (xCons (xVar 0) xNil)))
 (sRet (xCallP 2 (m_affine_text_in 30) (xCons (xVar 0) (xCons (xC (.int 0)) xNil)))))
def m__law_hand : Fn := mkDef 1 3 (sSeq (sAsg (xFrz (xComp [2] (iAny (xSl (xVar 0) oNone (oSome (xC (.int 63))))) (gVar 2) tTrue (xB vAbs (xCons (xB vInt (xCons (xVar 2) xNil)) xNil)))) (gVar 1))
 (sRet (xLive (xLst (xCons (xVar 1) (xCons (xC (.int 0)) (xCons (xC (.int 0)) (xCons (xOp vAdd (xC (.int 83)) (xOp vMul (xC (.int 5)) (xB vLen (xCons (xVar 1) xNil)))) (xCons (xC (.int 0)) xNil)))))))))
def m__law_draw : Fn := mkDef 2 5 (sSeq (sIf (tAnd (tV (xOp vEq (xOp vIx (xVar 0) (xC (.int 2))) (xC (.int 0)))) (tV (xOp vLt (xOp vIx (xVar 0) (xC (.int 1))) (xB vLen (xCons (xOp vIx (xVar 0) (xC (.int 0))) xNil)))))
 (sSeq (sAsg (xOp vIx (xOp vIx (xVar 0) (xC (.int 0))) (xOp vIx (xVar 0) (xC (.int 1)))) (gVar 2))
 (sSeq (sAsg (xOp vAdd (xOp vIx (xVar 0) (xC (.int 1))) (xC (.int 1))) (gSub (xVar 0) (xC (.int 1))))
 (sSeq (sAsg (xOp vMod (xB vInt (xCons (xOp vAdd (xOp vAdd (xOp vMul (xOp vIx (xVar 0) (xC (.int 3))) (xC (.int 48271))) (xOp vMul (xVar 2) (xC (.int 5)))) (xC (.int 29))) xNil)) (xC (.int 2147483587))) (gSub (xVar 0) (xC (.int 3))))
 (sAsg (xIf (tV (xOp vGe (xVar 2) (xOp vPow (xC (.int 10)) (xC (.int 18))))) (xVar 2) (xC (.int 0))) (gSub (xVar 0) (xC (.int 2)))))))
 sNext)
 (sSeq (sIf (tV (xOp vGt (xOp vIx (xVar 0) (xC (.int 2))) (xC (.int 0))))
 (sSeq (sAsg (xOp vMod (xB vInt (xCons (xOp vIx (xVar 0) (xC (.int 2))) xNil)) (xVar 1)) (gVar 3))
 (sSeq (sAsg (xOp vDiv (xOp vIx (xVar 0) (xC (.int 2))) (xVar 1)) (gSub (xVar 0) (xC (.int 2))))
 (sRet (xVar 3))))
 sNext)
 (sSeq (sAsg (xOp vAdd (xOp vIx (xVar 0) (xC (.int 4))) (xC (.int 1))) (gSub (xVar 0) (xC (.int 4))))
 (sSeq (sAsg (xOp vMod (xB vInt (xCons (xOp vMul (xB vInt (xCons (xOp vAdd (xOp vIx (xVar 0) (xC (.int 3))) (xOp vMul (xC (.int 7877)) (xOp vIx (xVar 0) (xC (.int 4))))) xNil)) (xC (.int 69621))) xNil)) (xC (.int 2147483647))) (gVar 4))
 (sSeq (sAsg (xOp vMod (xB vInt (xCons (xOp vMul (xVar 4) (xOp vAdd (xOp vDiv (xVar 4) (xC (.int 1103))) (xC (.int 40692)))) xNil)) (xC (.int 2147483399))) (gVar 4))
 (sSeq (sAsg (xOp vMod (xB vInt (xCons (xOp vMul (xVar 4) (xOp vAdd (xOp vDiv (xVar 4) (xC (.int 2311))) (xC (.int 48271)))) xNil)) (xC (.int 2147483629))) (gVar 4))
 (sRet (xOp vMod (xB vInt (xCons (xOp vDiv (xVar 4) (xC (.int 16))) xNil)) (xVar 1)))))))))
def m__law_some : Fn := mkDef 2 2 (sRet (xOp vIx (xVar 1) (xCall 2 m__law_draw (xCons (xVar 0) (xCons (xB vLen (xCons (xVar 1) xNil)) xNil)))))
def m__law_term : Nat → Fn
  | 0 => fnBad
  | n + 1 => mkDef 4 10 (sSeq (sAsg (xCall 2 m__law_draw (xCons (xVar 0) (xCons (xC (.int 5)) xNil))) (gVar 4))
 (sSeq (sIf (tAnd (tV (xOp vGt (xVar 3) (xC (.int 4)))) (tV (xOp vLt (xVar 4) (xC (.int 2)))))
 (sSeq (sAsg (xFrz (xComp [9] (iAny (xVar 2)) (gVar 9) (tV (xOp vEq (xCall 2 m__law_draw (xCons (xVar 0) (xCons (xC (.int 2)) xNil))) (xC (.int 0)))) (xVar 9))) (gVar 5))
 (sSeq (sPar [6, 7] (xCons (xFrz (xComp [9] (iAny (xVar 2)) (gVar 9) (tV (xOp vNotIn (xVar 9) (xVar 5))) (xVar 9))) (xCons (xOp vAdd (xC (.int 1)) (xCall 2 m__law_draw (xCons (xVar 0) (xCons (xOp vSub (xVar 3) (xC (.int 3))) xNil)))) xNil)))
 (sSeq (sAsg (xCall 4 (m__law_term n) (xCons (xVar 0) (xCons (xVar 1) (xCons (xVar 5) (xCons (xVar 7) xNil))))) (gVar 8))
 (sRet (xTup (xCons (xC (.str [117, 115, 101])) (xCons (xVar 8) (xCons (xCall 4 (m__law_term n) (xCons (xVar 0) (xCons (xVar 1) (xCons (xVar 6) (xCons (xOp vSub (xOp vSub (xVar 3) (xC (.int 1))) (xVar 7)) xNil))))) xNil))))))))
 sNext)
 (sSeq (sIf (tOr (tV (xOp vEq (xB vLen (xCons (xVar 2) xNil)) (xC (.int 0)))) (tAnd (tV (xOp vGt (xVar 3) (xC (.int 2)))) (tV (xOp vLt (xVar 4) (xC (.int 4))))))
 (sRet (xTup (xCons (xC (.str [102, 117, 110])) (xCons (xCall 4 (m__law_term n) (xCons (xVar 0) (xCons (xOp vAdd (xVar 1) (xC (.int 1))) (xCons (xFrz (xOpL lCat (xVar 2) (xFrz (xLst (xCons (xVar 1) xNil))))) (xCons (xOp vSub (xVar 3) (xC (.int 1))) xNil))))) xNil))))
 sNext)
 (sRet (xCall 2 m__law_some (xCons (xVar 0) (xCons (xVar 2) xNil)))))))
def m__law_parts : Nat → Fn
  | 0 => fnBad
  | n + 1 => mkDef 1 2 (sRet (xIf (tV (xUn (vIsT [] [.tuple]) (xVar 0))) (xOp vAdd (xC (.int 1)) (xB vSum (xCons (xFrz (xComp [1] (iAny (xSl (xVar 0) (oSome (xC (.int 1))) oNone)) (gVar 1) tTrue (xCallP 1 (m__law_parts n) (xCons (xVar 1) xNil)))) xNil))) (xC (.int 1))))
def m__law_closed : Fn := mkDef 2 4 (sSeq (sFor (iRange1 (xCons (xC (.int 5)) xNil)) (gVar 2)
 (sSeq (sAsg (xCall 4 (m__law_term 16) (xCons (xVar 0) (xCons (xC (.int 0)) (xCons (xFrz (xLst xNil)) (xCons (xOp vAdd (xC (.int 2)) (xCall 2 m__law_draw (xCons (xVar 0) (xCons (xOp vSub (xVar 1) (xC (.int 1))) xNil)))) xNil))))) (gVar 3))
 (sIf (tV (xOp vLe (xCallP 1 (m__law_parts 30) (xCons (xVar 3) xNil)) (xOp vAdd (xVar 1) (xC (.int 2)))))
 (sRet (xVar 3))
 sNext)))
 (sRet (xTup (xCons (xC (.str [117, 115, 101])) (xCons (xTup (xCons (xC (.str [102, 117, 110])) (xCons (xTup (xCons (xC (.str [102, 117, 110])) (xCons (xC (.int 1)) xNil))) xNil))) (xCons (xTup (xCons (xC (.str [102, 117, 110])) (xCons (xC (.int 0)) xNil))) xNil))))))
def m__law_every : Nat → Fn
  | 0 => fnBad
  | n + 1 => mkDef 3 12 (sSeq (sAsg (xIf (tV (xOp vEq (xVar 0) (xC (.int 1)))) (xLive (xComp [11] (iAny (xVar 2)) (gVar 11) tTrue (xTup (xCons (xVar 11) (xCons (xTup (xCons (xVar 11) xNil)) xNil))))) (xLive (xLst xNil))) (gVar 3))
 (sSeq (sIf (tV (xOp vGt (xVar 0) (xC (.int 1))))
 (sFor (iAny (xCallP 3 (m__law_every n) (xCons (xOp vSub (xVar 0) (xC (.int 1))) (xCons (xOp vAdd (xVar 1) (xC (.int 1))) (xCons (xOp vAdd (xVar 2) (xTup (xCons (xVar 1) xNil))) xNil))))) (gTup 2 (gsCons (gVar 4) (gsCons (gVar 5) gsNil)))
 (sDrop (xM Cell.isLst mAppend (xVar 3) (xCons (xTup (xCons (xTup (xCons (xC (.str [102, 117, 110])) (xCons (xVar 4) xNil))) (xCons (xB vTuple (xCons (xFrz (xComp [11] (iAny (xVar 5)) (gVar 11) (tV (xOp vNe (xVar 11) (xVar 1))) (xVar 11))) xNil)) xNil))) xNil))))
 sNext)
 (sSeq (sFor (iRange2 (xCons (xC (.int 1)) (xCons (xOp vSub (xVar 0) (xC (.int 1))) xNil))) (gVar 6)
 (sFor (iAny (xCallP 3 (m__law_every n) (xCons (xVar 6) (xCons (xVar 1) (xCons (xVar 2) xNil))))) (gTup 2 (gsCons (gVar 7) (gsCons (gVar 5) gsNil)))
 (sSeq (sAsg (xB vTuple (xCons (xFrz (xComp [11] (iAny (xVar 2)) (gVar 11) (tV (xOp vNotIn (xVar 11) (xVar 5))) (xVar 11))) xNil)) (gVar 8))
 (sFor (iAny (xCallP 3 (m__law_every n) (xCons (xOp vSub (xOp vSub (xVar 0) (xC (.int 1))) (xVar 6)) (xCons (xVar 1) (xCons (xVar 8) xNil))))) (gTup 2 (gsCons (gVar 9) (gsCons (gVar 10) gsNil)))
 (sDrop (xM Cell.isLst mAppend (xVar 3) (xCons (xTup (xCons (xTup (xCons (xC (.str [117, 115, 101])) (xCons (xVar 7) (xCons (xVar 9) xNil)))) (xCons (xOp vAdd (xVar 5) (xVar 10)) xNil))) xNil)))))))
 (sRet (xFz (xVar 3))))))
def m__law_text : Nat → Fn
  | 0 => fnBad
  | n + 1 => mkDef 2 4 (sSeq (sIf (tNot (tV (xUn (vIsT [] [.tuple]) (xVar 0))))
 (sRet (xOp vAdd (xC (.str [120])) (xB vStr (xCons (xVar 0) xNil))))
 sNext)
 (sSeq (sIf (tV (xOp vEq (xOp vIx (xVar 0) (xC (.int 0))) (xC (.str [102, 117, 110]))))
 (sRet (xOp vAdd (xOp vAdd (xOp vAdd (xC (.str [92, 120])) (xB vStr (xCons (xVar 1) xNil))) (xC (.str [46, 32]))) (xCallP 2 (m__law_text n) (xCons (xOp vIx (xVar 0) (xC (.int 1))) (xCons (xOp vAdd (xVar 1) (xC (.int 1))) xNil)))))
 sNext)
 (sSeq (sPar [2, 3] (xCons (xCallP 2 (m__law_text n) (xCons (xOp vIx (xVar 0) (xC (.int 1))) (xCons (xVar 1) xNil))) (xCons (xCallP 2 (m__law_text n) (xCons (xOp vIx (xVar 0) (xC (.int 2))) (xCons (xVar 1) xNil))) xNil)))
 (sSeq (sAsg (xIf (tAnd (tV (xUn (vIsT [] [.tuple]) (xOp vIx (xVar 0) (xC (.int 1))))) (tV (xOp vEq (xOp vIx (xOp vIx (xVar 0) (xC (.int 1))) (xC (.int 0))) (xC (.str [102, 117, 110]))))) (xOp vAdd (xOp vAdd (xC (.str [40])) (xVar 2)) (xC (.str [41]))) (xVar 2)) (gVar 2))
 (sRet (xOp vAdd (xOp vAdd (xVar 2) (xC (.str [32]))) (xIf (tV (xUn (vIsT [] [.tuple]) (xOp vIx (xVar 0) (xC (.int 2))))) (xOp vAdd (xOp vAdd (xC (.str [40])) (xVar 3)) (xC (.str [41]))) (xVar 3))))))))
def m__law_word : Thk → Thk := fun th => mkDefL 4 (sSeq (sAsg (xC (.str [108, 101, 116])) (gVar 1))
 (sSeq (sTry [1, 2] (fun c => ([1, 2] : List Nat).contains c) 2
 (sDrop (xActL th))
 (fun er =>
 (sSeq (sAsg (xFrz (xLst (xCons (xIsEF [1, 2] (fun c => ([2] : List Nat).contains c) er) (xCons (xIsEF [1, 2] (fun c => ([1] : List Nat).contains c) er) xNil)))) (gVar 3))
 (sSeq (sAsg (xC (.str [111, 116, 104, 101, 114])) (gVar 1))
 (sIf (tAnd (tV (xOp vEq (xMR mCount (xVar 3) (xCons (xC (.bl true)) xNil)) (xC (.int 1)))) (tV (xIsEF [1, 2] (fun c => ([1, 2] : List Nat).contains c) er)))
 (sAsg (xOp vIx (xFrz (xLst (xCons (xC (.str [97, 102, 102, 105, 110, 101])) (xCons (xC (.str [110, 117, 109, 98, 101, 114])) xNil)))) (xMR mIndex (xVar 3) (xCons (xC (.bl true)) xNil))) (gVar 1))
 sNext)))))
 (sRet (xVar 1))))
def m_law : Fn := mkDef 1 13 (sSeq (sAsg (xCall 1 m__law_hand (xCons (xVar 0) xNil)) (gVar 1))
 (sSeq (sIf (tV (xOp vNe (xCallP 1 m_all_terms (xCons (xC (.int 1)) xNil)) (xFrz (xLst xNil))))
 (sRet (xC (.bl false)))
 sNext)
 (sSeq (sIf (tV (xOp vNe (xCallP 1 m_all_terms (xCons (xC (.int 2)) xNil)) (xFrz (xLst (xCons (xTup (xCons (xC (.str [102, 117, 110])) (xCons (xC (.int 0)) xNil))) xNil)))))
 (sRet (xC (.bl false)))
 sNext)
 (sSeq (sIf (tV (xOp vNe (xCallP 1 m_affine_text (xCons (xTup (xCons (xC (.str [102, 117, 110])) (xCons (xTup (xCons (xC (.str [102, 117, 110])) (xCons (xTup (xCons (xC (.str [117, 115, 101])) (xCons (xC (.int 1)) (xCons (xC (.int 0)) xNil)))) xNil))) xNil))) xNil)) (xC (.str [92, 120, 48, 46, 32, 92, 120, 49, 46, 32, 120, 49, 32, 120, 48]))))
 (sRet (xC (.bl false)))
 sNext)
 (sSeq (sIf (tV (xOp vNe (xCallP 1 m_affine_text (xCons (xTup (xCons (xC (.str [117, 115, 101])) (xCons (xTup (xCons (xC (.str [102, 117, 110])) (xCons (xC (.int 0)) xNil))) (xCons (xTup (xCons (xC (.str [117, 115, 101])) (xCons (xTup (xCons (xC (.str [102, 117, 110])) (xCons (xC (.int 0)) xNil))) (xCons (xTup (xCons (xC (.str [102, 117, 110])) (xCons (xC (.int 0)) xNil))) xNil)))) xNil)))) xNil)) (xC (.str [40, 92, 120, 48, 46, 32, 120, 48, 41, 32, 40, 40, 92, 120, 48, 46, 32, 120, 48, 41, 32, 40, 92, 120, 48, 46, 32, 120, 48, 41, 41]))))
 (sRet (xC (.bl false)))
 sNext)
 (sSeq (sAsg (xIf (tV (xOp vEq (xCall 2 m__law_draw (xCons (xVar 1) (xCons (xC (.int 8)) xNil))) (xC (.int 0)))) (xC (.int 7)) (xOp vAdd (xC (.int 1)) (xCall 2 m__law_draw (xCons (xVar 1) (xCons (xC (.int 6)) xNil))))) (gVar 2))
 (sSeq (sPar [3, 4] (xCons (xCallL 1 m_all_terms (xCons (xVar 2) xNil)) (xCons (xFrz (xComp [7, 11] (iAny (xCallP 3 (m__law_every 8) (xCons (xVar 2) (xCons (xC (.int 0)) (xCons (xTup xNil) xNil))))) (gTup 2 (gsCons (gVar 7) (gsCons (gVar 11) gsNil))) tTrue (xVar 7))) xNil)))
 (sSeq (sIf (tV (xOp vNe (xB vLen (xCons (xVar 3) xNil)) (xB vLen (xCons (xVar 4) xNil))))
 (sRet (xC (.bl false)))
 sNext)
 (sSeq (sIf (tV (xOp vNe (xFrz (xBL lSorted (xCons (xFrz (xComp [7] (iAny (xVar 3)) (gVar 7) tTrue (xB vRepr (xCons (xVar 7) xNil)))) xNil))) (xFrz (xBL lSorted (xCons (xFrz (xComp [7] (iAny (xVar 4)) (gVar 7) tTrue (xB vRepr (xCons (xVar 7) xNil)))) xNil)))))
 (sRet (xC (.bl false)))
 sNext)
 (sSeq (sAsg (xFrz (xComp [7] (iAny (xVar 3)) (gVar 7) tTrue (xIf (tV (xOp vEq (xOp vIx (xVar 7) (xC (.int 0))) (xC (.str [102, 117, 110])))) (xC (.int 0)) (xCallP 1 (m__law_parts 30) (xCons (xOp vIx (xVar 7) (xC (.int 1))) xNil))))) (gVar 5))
 (sSeq (sIf (tV (xOp vNe (xVar 5) (xFrz (xBL lSorted (xCons (xVar 5) xNil)))))
 (sRet (xC (.bl false)))
 sNext)
 (sSeq (sIf (tNot (tV (xB vAll (xCons (xFrz (xComp [7] (iAny (xVar 3)) (gVar 7) tTrue (xOp vIsB (xCallP 1 m_is_affine (xCons (xVar 7) xNil)) (xC (.bl true))))) xNil))))
 (sRet (xC (.bl false)))
 sNext)
 (sSeq (sAsg (xLiveD xDNil) (gVar 6))
 (sSeq (sFor (iAny (xFrz (xOpL lCat (xVar 3) (xFrz (xComp [12] (iRange1 (xCons (xC (.int 5)) xNil)) (gVar 12) tTrue (xCall 2 m__law_closed (xCons (xVar 1) (xCons (xC (.int 10)) xNil)))))))) (gVar 7)
 (sSeq (sAsg (xCallP 2 (m__law_text 30) (xCons (xVar 7) (xCons (xC (.int 0)) xNil))) (gVar 8))
 (sSeq (sIf (tV (xReprNeT (xCallP 1 m_affine_text (xCons (xVar 7) xNil)) (xVar 8)))
 (sRet (xC (.bl false)))
 sNext)
 (sIf (tV (xOp vNe (xM Cell.isDct mSetd (xVar 6) (xCons (xVar 8) (xCons (xVar 7) xNil))) (xVar 7)))
 (sRet (xC (.bl false)))
 sNext))))
 (sSeq (sDrop (xM Cell.isLst mAppend (xVar 3) (xCons (xC .non) xNil)))
 (sSeq (sIf (tV (xOp vNe (xB vLen (xCons (xCallP 1 m_all_terms (xCons (xVar 2) xNil)) xNil)) (xB vLen (xCons (xVar 4) xNil))))
 (sRet (xC (.bl false)))
 sNext)
 (sSeq (sAsg (xCall 2 m__law_some (xCons (xVar 1) (xCons (xFrz (xLst (xCons (xC (.int 0)) (xCons (xC (.int 8)) (xCons (xUn vNeg (xC (.int 1))) (xCons (xC (.bl true)) (xCons (xC .non) (xCons (xC (.str [51])) (xCons (xTup (xCons (xC (.int 3)) xNil)) (xCons (xFrz (xLst (xCons (xC (.int 3)) xNil))) (xCons (xFrzD xDNil) (xCons (xOp vPow (xC (.int 10)) (xC (.int 19))) xNil)))))))))))) xNil))) (gVar 9))
 (sSeq (sAsg (xCall 2 m__law_some (xCons (xVar 1) (xCons (xFrz (xLst (xCons (xC (.int 0)) (xCons (xC .non) (xCons (xTup (xCons (xC (.str [102, 117, 110])) (xCons (xTup (xCons (xC (.str [117, 115, 101])) (xCons (xC (.int 0)) (xCons (xC (.int 0)) xNil)))) xNil))) (xCons (xTup (xCons (xC (.str [102, 117, 110])) (xCons (xC (.int 1)) xNil))) (xCons (xFrz (xLst (xCons (xC (.str [102, 117, 110])) (xCons (xC (.int 0)) xNil)))) (xCons (xTup (xCons (xC (.str [102, 117, 110])) (xCons (xC (.bl true)) xNil))) (xCons (xTup xNil) (xCons (xFrzD xDNil) (xCons (xC (.str [120, 48])) xNil))))))))))) xNil))) (gVar 10))
 (sRet (xOp vEq (xFrz (xLst (xCons (xLamP m__law_word [9] (xCallP 1 m_all_terms (xCons (xVar 9) xNil))) (xCons (xLamP m__law_word [10] (xCallP 1 m_affine_text (xCons (xVar 10) xNil))) xNil)))) (xFrz (xLst (xCons (xC (.str [110, 117, 109, 98, 101, 114])) (xCons (xC (.str [97, 102, 102, 105, 110, 101])) xNil))))))))))))))))))))))))
end Mi
end
section
set_option Elab.async false
set_option linter.all false
set_option maxRecDepth 100000
set_option maxHeartbeats 0
set_option autoImplicit false
namespace Mi
open PySem PySem.Spec PyProof.Rows L2
def top (i : Nat) : Stmt := PySem.Challenge.pw_pairhouses_k52_whole_all_terms_and_their.main.body.getD i (.Pass ⟨0, 0, 0, 0⟩)
def caK (K : PySem.W.Frag) : Nat → Addr
  | 0 => He.ga K "NetError"
  | 1 => He.ga K "NoNumber"
  | 2 => He.ga K "NoAffine"
  | _ => 0
def anL : List PySem.Str := []
def anF (i : Nat) : PySem.Str := anL.getD i ""
theorem anF_inj : ((List.range 0).all fun i => (List.range 0).all fun j => !decide (anF i = anF j) || decide (i = j)) = true := by decide +kernel
def TT (K : PySem.W.Frag) : Tb where
  K := K
  ca := caK K
  an := anF
  n := 0
  inj := fun i j hi hj e => by
    have h := List.all_eq_true.mp (List.all_eq_true.mp anF_inj i (List.mem_range.mpr hi)) j (List.mem_range.mpr hj)
    simp only [Bool.or_eq_true, Bool.not_eq_true', decide_eq_false_iff_not, decide_eq_true_eq] at h
    exact h.resolve_left fun z => z e
  pin := []
  tb := [((He.cT K ("law", none)).2, lamQ "law")]
abbrev PP : Program := PySem.Challenge.pw_pairhouses_k52_whole_all_terms_and_their
theorem htopP : (PP.main.scope.names.lookup ("super" : PySem.Str)).isSome = false := by decide +kernel
theorem se_NoAffine : SupE (defBody (inClass (top 7) 0)) [] (defScope (inClass (top 7) 0)) := ⟨⟨_, _, _, _, _, _, _, _, rfl, fun _ _ _ _ _ => ⟨⟨_, rfl⟩, rfl⟩⟩⟩
theorem se_NoNumber : SupE (defBody (inClass (top 6) 0)) [] (defScope (inClass (top 6) 0)) := ⟨⟨_, _, _, _, _, _, _, _, rfl, fun _ _ _ _ _ => ⟨⟨_, rfl⟩, rfl⟩⟩⟩
/-- what the text's top says -/
structure Al (K : PySem.W.Frag) (mg : PySem.Str → Option Value) : Prop where
  d_is_integer : ∃ fd, FunD K "is_integer" "is_integer" (defArgs (top 1)) (defBody (top 1)) (defScope (top 1)) [] [] (He.fAd K ("is_integer", none)) fd
  d_is_within : ∃ fd, FunD K "is_within" "is_within" (defArgs (top 2)) (defBody (top 2)) (defScope (top 2)) [] [] (He.fAd K ("is_within", none)) fd
  d_is_one_of : ∃ fd, FunD K "is_one_of" "is_one_of" (defArgs (top 3)) (defBody (top 3)) (defScope (top 3)) [] [] (He.fAd K ("is_one_of", none)) fd
  d_parts_in : ∃ fd, FunD K "parts_in" "parts_in" (defArgs (top 12)) (defBody (top 12)) (defScope (top 12)) [] [] (He.fAd K ("parts_in", none)) fd
  d_times_in : ∃ fd, FunD K "times_in" "times_in" (defArgs (top 13)) (defBody (top 13)) (defScope (top 13)) [] [] (He.fAd K ("times_in", none)) fd
  d_all_once : ∃ fd, FunD K "all_once" "all_once" (defArgs (top 14)) (defBody (top 14)) (defScope (top 14)) [] [] (He.fAd K ("all_once", none)) fd
  d_is_affine : ∃ fd, FunD K "is_affine" "is_affine" (defArgs (top 15)) (defBody (top 15)) (defScope (top 15)) [] [] (He.fAd K ("is_affine", none)) fd
  d_check_affine : ∃ fd, FunD K "check_affine" "check_affine" (defArgs (top 16)) (defBody (top 16)) (defScope (top 16)) [] [] (He.fAd K ("check_affine", none)) fd
  d_terms_with : ∃ fd, FunD K "terms_with" "terms_with" (defArgs (top 18)) (defBody (top 18)) (defScope (top 18)) [] [] (He.fAd K ("terms_with", none)) fd
  d_all_terms : ∃ fd, FunD K "all_terms" "all_terms" (defArgs (top 17)) (defBody (top 17)) (defScope (top 17)) [] [] (He.fAd K ("all_terms", none)) fd
  d_affine_text_in : ∃ fd, FunD K "affine_text_in" "affine_text_in" (defArgs (top 19)) (defBody (top 19)) (defScope (top 19)) [] [] (He.fAd K ("affine_text_in", none)) fd
  d_affine_text : ∃ fd, FunD K "affine_text" "affine_text" (defArgs (top 20)) (defBody (top 20)) (defScope (top 20)) [] [] (He.fAd K ("affine_text", none)) fd
  d__law_hand : ∃ fd, FunD K "_law_hand" "_law_hand" (defArgs (top 22)) (defBody (top 22)) (defScope (top 22)) [] [] (He.fAd K ("_law_hand", none)) fd
  d__law_draw : ∃ fd, FunD K "_law_draw" "_law_draw" (defArgs (top 23)) (defBody (top 23)) (defScope (top 23)) [] [] (He.fAd K ("_law_draw", none)) fd
  d__law_some : ∃ fd, FunD K "_law_some" "_law_some" (defArgs (top 24)) (defBody (top 24)) (defScope (top 24)) [] [] (He.fAd K ("_law_some", none)) fd
  d__law_term : ∃ fd, FunD K "_law_term" "_law_term" (defArgs (top 25)) (defBody (top 25)) (defScope (top 25)) [] [] (He.fAd K ("_law_term", none)) fd
  d__law_parts : ∃ fd, FunD K "_law_parts" "_law_parts" (defArgs (top 27)) (defBody (top 27)) (defScope (top 27)) [] [] (He.fAd K ("_law_parts", none)) fd
  d__law_closed : ∃ fd, FunD K "_law_closed" "_law_closed" (defArgs (top 26)) (defBody (top 26)) (defScope (top 26)) [] [] (He.fAd K ("_law_closed", none)) fd
  d__law_every : ∃ fd, FunD K "_law_every" "_law_every" (defArgs (top 28)) (defBody (top 28)) (defScope (top 28)) [] [] (He.fAd K ("_law_every", none)) fd
  d__law_text : ∃ fd, FunD K "_law_text" "_law_text" (defArgs (top 29)) (defBody (top 29)) (defScope (top 29)) [] [] (He.fAd K ("_law_text", none)) fd
  d__law_word : ∃ fd, FunD K "_law_word" "_law_word" (defArgs (top 30)) (defBody (top 30)) (defScope (top 30)) [] [] (He.fAd K ("_law_word", none)) fd
  d_law : ∃ fd, FunD K "law" "law" (defArgs (top 31)) (defBody (top 31)) (defScope (top 31)) [] [] (He.fAd K ("law", none)) fd
  g__law_closed : mg "_law_closed" = some (.ref (He.ga K "_law_closed"))
  g__law_draw : mg "_law_draw" = some (.ref (He.ga K "_law_draw"))
  g__law_every : mg "_law_every" = some (.ref (He.ga K "_law_every"))
  g__law_hand : mg "_law_hand" = some (.ref (He.ga K "_law_hand"))
  g__law_parts : mg "_law_parts" = some (.ref (He.ga K "_law_parts"))
  g__law_some : mg "_law_some" = some (.ref (He.ga K "_law_some"))
  g__law_term : mg "_law_term" = some (.ref (He.ga K "_law_term"))
  g__law_text : mg "_law_text" = some (.ref (He.ga K "_law_text"))
  g__law_word : mg "_law_word" = some (.ref (He.ga K "_law_word"))
  g_affine_text : mg "affine_text" = some (.ref (He.ga K "affine_text"))
  g_affine_text_in : mg "affine_text_in" = some (.ref (He.ga K "affine_text_in"))
  g_all_once : mg "all_once" = some (.ref (He.ga K "all_once"))
  g_all_terms : mg "all_terms" = some (.ref (He.ga K "all_terms"))
  g_check_affine : mg "check_affine" = some (.ref (He.ga K "check_affine"))
  g_is_affine : mg "is_affine" = some (.ref (He.ga K "is_affine"))
  g_is_integer : mg "is_integer" = some (.ref (He.ga K "is_integer"))
  g_is_one_of : mg "is_one_of" = some (.ref (He.ga K "is_one_of"))
  g_is_within : mg "is_within" = some (.ref (He.ga K "is_within"))
  g_law : mg "law" = some (.ref (He.ga K "law"))
  g_parts_in : mg "parts_in" = some (.ref (He.ga K "parts_in"))
  g_terms_with : mg "terms_with" = some (.ref (He.ga K "terms_with"))
  g_times_in : mg "times_in" = some (.ref (He.ga K "times_in"))
  s_FUN : ∃ t, mg "FUN" = some (.str "fun" t)
  i_MOST_PARTS : ∃ t, mg "MOST_PARTS" = some (.int (60) t)
  s_USE : ∃ t, mg "USE" = some (.str "use" t)
  b_ValueError : mg "ValueError" = none
  b_abs : mg "abs" = none
  b_all : mg "all" = none
  b_bool : mg "bool" = none
  b_int : mg "int" = none
  b_isinstance : mg "isinstance" = none
  b_len : mg "len" = none
  b_list : mg "list" = none
  b_range : mg "range" = none
  b_repr : mg "repr" = none
  b_sorted : mg "sorted" = none
  b_str : mg "str" = none
  b_sum : mg "sum" = none
  b_super : mg "super" = none
  b_tuple : mg "tuple" = none
  gx_NoAffine : mg "NoAffine" = some (.ref (He.ga K "NoAffine"))
  gx_NoNumber : mg "NoNumber" = some (.ref (He.ga K "NoNumber"))
  gx_NetError : mg "NetError" = some (.ref (He.ga K "NetError"))
  sup_NoAffine : SupC PP K (He.ga K "NoAffine") (He.ma K (He.ga K "NoAffine") "__init__") ["self"] (defBody (inClass (top 7) 0)) (defScope (inClass (top 7) 0))
  sup_NoNumber : SupC PP K (He.ga K "NoNumber") (He.ma K (He.ga K "NoNumber") "__init__") ["self"] (defBody (inClass (top 6) 0)) (defScope (inClass (top 6) 0))
  ec_NoNumber : ExcC K (He.ga K "NoNumber")
  ec_NoAffine : ExcC K (He.ga K "NoAffine")
  cx_NetError_NoNumber : PySem.W.exmOne K (.ref (He.ga K "NoNumber")) (.ref (He.ga K "NetError")) = some true
  cx_NetError_NoAffine : PySem.W.exmOne K (.ref (He.ga K "NoAffine")) (.ref (He.ga K "NetError")) = some true
  kx_NoNumber_NoNumber : PySem.W.kitOne K (.ref (He.ga K "NoNumber")) (.ref (He.ga K "NoNumber")) = some true
  kx_NoNumber_NoAffine : PySem.W.kitOne K (.ref (He.ga K "NoAffine")) (.ref (He.ga K "NoNumber")) = some false
  kx_NoAffine_NoNumber : PySem.W.kitOne K (.ref (He.ga K "NoNumber")) (.ref (He.ga K "NoAffine")) = some false
  kx_NoAffine_NoAffine : PySem.W.kitOne K (.ref (He.ga K "NoAffine")) (.ref (He.ga K "NoAffine")) = some true
  kx_ValueError_NoNumber : PySem.W.kitOne K (.ref (He.ga K "NoNumber")) (.type "ValueError") = some true
  kx_ValueError_NoAffine : PySem.W.kitOne K (.ref (He.ga K "NoAffine")) (.type "ValueError") = some true
  k0_NoneType : PySem.W.kitAny K (.type "NoneType") [.type "int"] = some false
  k0_bool : PySem.W.kitAny K (.type "bool") [.type "int"] = some true
  k0_int : PySem.W.kitAny K (.type "int") [.type "int"] = some true
  k0_str : PySem.W.kitAny K (.type "str") [.type "int"] = some false
  k0_tuple : PySem.W.kitAny K (.type "tuple") [.type "int"] = some false
  k0_list : PySem.W.kitAny K (.type "list") [.type "int"] = some false
  k0_dict : PySem.W.kitAny K (.type "dict") [.type "int"] = some false
  k1_NoneType : PySem.W.kitAny K (.type "NoneType") [.type "bool"] = some false
  k1_bool : PySem.W.kitAny K (.type "bool") [.type "bool"] = some true
  k1_int : PySem.W.kitAny K (.type "int") [.type "bool"] = some false
  k1_str : PySem.W.kitAny K (.type "str") [.type "bool"] = some false
  k1_tuple : PySem.W.kitAny K (.type "tuple") [.type "bool"] = some false
  k1_list : PySem.W.kitAny K (.type "list") [.type "bool"] = some false
  k1_dict : PySem.W.kitAny K (.type "dict") [.type "bool"] = some false
  k2_NoneType : PySem.W.kitAny K (.type "NoneType") [.type "str"] = some false
  k2_bool : PySem.W.kitAny K (.type "bool") [.type "str"] = some false
  k2_int : PySem.W.kitAny K (.type "int") [.type "str"] = some false
  k2_str : PySem.W.kitAny K (.type "str") [.type "str"] = some true
  k2_tuple : PySem.W.kitAny K (.type "tuple") [.type "str"] = some false
  k2_list : PySem.W.kitAny K (.type "list") [.type "str"] = some false
  k2_dict : PySem.W.kitAny K (.type "dict") [.type "str"] = some false
  k3_NoneType : PySem.W.kitAny K (.type "NoneType") [.type "tuple"] = some false
  k3_bool : PySem.W.kitAny K (.type "bool") [.type "tuple"] = some false
  k3_int : PySem.W.kitAny K (.type "int") [.type "tuple"] = some false
  k3_str : PySem.W.kitAny K (.type "str") [.type "tuple"] = some false
  k3_tuple : PySem.W.kitAny K (.type "tuple") [.type "tuple"] = some true
  k3_list : PySem.W.kitAny K (.type "list") [.type "tuple"] = some false
  k3_dict : PySem.W.kitAny K (.type "dict") [.type "tuple"] = some false
theorem bb_ValueError : bootBuiltins "ValueError" = some (.type "ValueError") := by decide +kernel
theorem bb_abs : bootBuiltins "abs" = some (.builtin "abs") := by decide +kernel
theorem bb_all : bootBuiltins "all" = some (.builtin "all") := by decide +kernel
theorem bb_bool : bootBuiltins "bool" = some (.type "bool") := by decide +kernel
theorem bb_int : bootBuiltins "int" = some (.type "int") := by decide +kernel
theorem bb_isinstance : bootBuiltins "isinstance" = some (.builtin "isinstance") := by decide +kernel
theorem bb_len : bootBuiltins "len" = some (.builtin "len") := by decide +kernel
theorem bb_list : bootBuiltins "list" = some (.type "list") := by decide +kernel
theorem bb_repr : bootBuiltins "repr" = some (.builtin "repr") := by decide +kernel
theorem bb_sorted : bootBuiltins "sorted" = some (.builtin "sorted") := by decide +kernel
theorem bb_str : bootBuiltins "str" = some (.type "str") := by decide +kernel
theorem bb_sum : bootBuiltins "sum" = some (.builtin "sum") := by decide +kernel
theorem bb_tuple : bootBuiltins "tuple" = some (.type "tuple") := by decide +kernel
section
variable {K : PySem.W.Frag} {mg : PySem.Str → Option Value}
theorem cat_NetError (A : Al K mg) : CatOk K (TT K).toTs [1, 2] (fun c => ([1, 2] : List Nat).contains c) (.ref (He.ga K "NetError")) := ⟨fun c hc => by
    simp only [List.mem_cons, List.not_mem_nil, or_false] at hc
    rcases hc with rfl | rfl
    · exact A.cx_NetError_NoNumber
    · exact A.cx_NetError_NoAffine⟩
theorem ise_NoNumber (A : Al K mg) : IsEOk K (TT K).toTs [1, 2] (fun c => ([1] : List Nat).contains c) (.ref (He.ga K "NoNumber")) := ⟨fun c hc => by
    simp only [List.mem_cons, List.not_mem_nil, or_false] at hc
    rcases hc with rfl | rfl
    · exact A.kx_NoNumber_NoNumber
    · exact A.kx_NoNumber_NoAffine, fun c hc => by
    simp only [List.mem_cons, List.not_mem_nil, or_false] at hc
    rcases hc with rfl | rfl
    · exact A.ec_NoNumber
    · exact A.ec_NoAffine⟩
theorem ise_NoAffine (A : Al K mg) : IsEOk K (TT K).toTs [1, 2] (fun c => ([2] : List Nat).contains c) (.ref (He.ga K "NoAffine")) := ⟨fun c hc => by
    simp only [List.mem_cons, List.not_mem_nil, or_false] at hc
    rcases hc with rfl | rfl
    · exact A.kx_NoAffine_NoNumber
    · exact A.kx_NoAffine_NoAffine, fun c hc => by
    simp only [List.mem_cons, List.not_mem_nil, or_false] at hc
    rcases hc with rfl | rfl
    · exact A.ec_NoNumber
    · exact A.ec_NoAffine⟩
theorem ise_ValueError (A : Al K mg) : IsEOk K (TT K).toTs [1, 2] (fun c => ([1, 2] : List Nat).contains c) (.type "ValueError") := ⟨fun c hc => by
    simp only [List.mem_cons, List.not_mem_nil, or_false] at hc
    rcases hc with rfl | rfl
    · exact A.kx_ValueError_NoNumber
    · exact A.kx_ValueError_NoAffine, fun c hc => by
    simp only [List.mem_cons, List.not_mem_nil, or_false] at hc
    rcases hc with rfl | rfl
    · exact A.ec_NoNumber
    · exact A.ec_NoAffine⟩
theorem isi_0 (A : Al K mg) : IsiOk K (TT K).toTs [] [.int] [.type "int"] where
  b := fun k hk => by
    simp only [List.mem_cons, List.not_mem_nil, or_false] at hk
    rcases hk with rfl | rfl | rfl | rfl | rfl | rfl | rfl
    · exact A.k0_NoneType
    · exact A.k0_bool
    · exact A.k0_int
    · exact A.k0_str
    · exact A.k0_tuple
    · exact A.k0_list
    · exact A.k0_dict
  i := fun c hc => by simp at hc
  k := fun c hc => by simp at hc
theorem isi_1 (A : Al K mg) : IsiOk K (TT K).toTs [] [.bool] [.type "bool"] where
  b := fun k hk => by
    simp only [List.mem_cons, List.not_mem_nil, or_false] at hk
    rcases hk with rfl | rfl | rfl | rfl | rfl | rfl | rfl
    · exact A.k1_NoneType
    · exact A.k1_bool
    · exact A.k1_int
    · exact A.k1_str
    · exact A.k1_tuple
    · exact A.k1_list
    · exact A.k1_dict
  i := fun c hc => by simp at hc
  k := fun c hc => by simp at hc
theorem isi_2 (A : Al K mg) : IsiOk K (TT K).toTs [] [.str] [.type "str"] where
  b := fun k hk => by
    simp only [List.mem_cons, List.not_mem_nil, or_false] at hk
    rcases hk with rfl | rfl | rfl | rfl | rfl | rfl | rfl
    · exact A.k2_NoneType
    · exact A.k2_bool
    · exact A.k2_int
    · exact A.k2_str
    · exact A.k2_tuple
    · exact A.k2_list
    · exact A.k2_dict
  i := fun c hc => by simp at hc
  k := fun c hc => by simp at hc
theorem isi_3 (A : Al K mg) : IsiOk K (TT K).toTs [] [.tuple] [.type "tuple"] where
  b := fun k hk => by
    simp only [List.mem_cons, List.not_mem_nil, or_false] at hk
    rcases hk with rfl | rfl | rfl | rfl | rfl | rfl | rfl
    · exact A.k3_NoneType
    · exact A.k3_bool
    · exact A.k3_int
    · exact A.k3_str
    · exact A.k3_tuple
    · exact A.k3_list
    · exact A.k3_dict
  i := fun c hc => by simp at hc
  k := fun c hc => by simp at hc
end
abbrev n_is_integer : List PySem.Str := ["thing"]
abbrev n_is_within : List PySem.Str := ["thing", "least", "most"]
abbrev n_is_one_of : List PySem.Str := ["thing", "names"]
abbrev n_parts_in : List PySem.Str := ["thing", "around", "left", "inner", "first", "second"]
abbrev n_times_in : List PySem.Str := ["term", "number", "part"]
abbrev n_all_once : List PySem.Str := ["term", "around"]
abbrev n_is_affine : List PySem.Str := ["thing"]
abbrev n_check_affine : List PySem.Str := ["thing"]
abbrev n_terms_with : List PySem.Str := ["size", "around", "found", "first", "one", "inner", "other"]
abbrev n_all_terms : List PySem.Str := ["size", "term"]
abbrev n_affine_text_in : List PySem.Str := ["term", "around", "first", "second"]
abbrev n_affine_text : List PySem.Str := ["term"]
abbrev n__law_hand : List PySem.Str := ["script", "cells", "cell"]
abbrev n__law_draw : List PySem.Str := ["hand", "many", "cell", "digit", "number"]
abbrev n__law_some : List PySem.Str := ["hand", "things"]
abbrev n__law_term : List PySem.Str := ["hand", "deep", "free", "parts_now", "kind", "mine", "yours", "size", "one", "n"]
abbrev n__law_parts : List PySem.Str := ["term", "part"]
abbrev n__law_closed : List PySem.Str := ["hand", "most", "turn", "term"]
abbrev n__law_every : List PySem.Str := ["parts_now", "deep", "free", "found", "term", "used", "size", "one", "left", "other", "more", "n"]
abbrev n__law_text : List PySem.Str := ["term", "deep", "one", "other"]
abbrev n__law_word : List PySem.Str := ["call", "word", "error", "flags"]
abbrev n_law : List PySem.Str := ["script", "hand", "size", "told", "due", "ranks", "texts", "term", "text", "number", "thing", "used", "turn"]
section
variable {w : World} {K : PySem.W.Frag} {mg : PySem.Str → Option Value} {base : Heap}
theorem sc_is_integer : FnScope n_is_integer ["thing"] (defScope (top 1)) := ⟨rfl, rfl, rfl, by decide +kernel, rfl, by decide +kernel, by decide +kernel⟩
theorem w_is_integer (A : Al K mg) : Fok PP w K mg base (TT K) 1 1 m_is_integer (He.fAd K ("is_integer", none)) := by
  have nd : n_is_integer.Nodup := sc_is_integer.nd
  obtain ⟨fd, F⟩ := A.d_is_integer
  refine ⟨fd, ["thing"], fn_defD (k := 0) (n := 1) F sc_is_integer rfl rfl rfl fun cdv A' outer s H E hr => ?_, F.kp, (FunD.bindsN (ps := ["thing"]) F fun _ _ _ _ _ _ us hl => match us, hl with | [_], _ => rfl), rfl⟩
  exact (mss_one (ms_ret (me_and (me_isi (bl A.b_isinstance bb_isinstance) (isi_0 A) me_var (clsE_ty (bl A.b_int bb_int))) (me_one (me_not (me_isi (bl A.b_isinstance bb_isinstance) (isi_1 A) me_var (clsE_ty (bl A.b_bool bb_bool))))))))
theorem sc_is_within : FnScope n_is_within ["thing", "least", "most"] (defScope (top 2)) := ⟨rfl, rfl, rfl, by decide +kernel, rfl, by decide +kernel, by decide +kernel⟩
theorem w_is_within (A : Al K mg) : Fok PP w K mg base (TT K) 2 3 m_is_within (He.fAd K ("is_within", none)) := by
  have nd : n_is_within.Nodup := sc_is_within.nd
  obtain ⟨fd, F⟩ := A.d_is_within
  refine ⟨fd, ["thing", "least", "most"], fn_defD (k := 1) (n := 3) F sc_is_within rfl rfl rfl fun cdv A' outer s H E hr => ?_, F.kp, (FunD.bindsN (ps := ["thing", "least", "most"]) F fun _ _ _ _ _ _ us hl => match us, hl with | [_, _, _], _ => rfl), rfl⟩
  exact (mss_one (ms_ret (me_and (me_callP (df_of (w_is_integer A) A.g_is_integer) hr (by decide) takes_body rfl (ma_cons me_var ma_nil)) (me_one (me_chain (cm_le) (cm_le) me_var me_var me_var)))))
theorem sc_is_one_of : FnScope n_is_one_of ["thing", "names"] (defScope (top 3)) := ⟨rfl, rfl, rfl, by decide +kernel, rfl, by decide +kernel, by decide +kernel⟩
theorem w_is_one_of (A : Al K mg) : Fok PP w K mg base (TT K) 1 2 m_is_one_of (He.fAd K ("is_one_of", none)) := by
  have nd : n_is_one_of.Nodup := sc_is_one_of.nd
  obtain ⟨fd, F⟩ := A.d_is_one_of
  refine ⟨fd, ["thing", "names"], fn_defD (k := 0) (n := 2) F sc_is_one_of rfl rfl rfl fun cdv A' outer s H E hr => ?_, F.kp, (FunD.bindsN (ps := ["thing", "names"]) F fun _ _ _ _ _ _ us hl => match us, hl with | [_, _], _ => rfl), rfl⟩
  exact (mss_one (ms_ret (me_and (me_isi (bl A.b_isinstance bb_isinstance) (isi_2 A) me_var (clsE_ty (bl A.b_str bb_str))) (me_one (me_cmp (cm_in (u66 hr)) me_var me_var (by rfl))))))
theorem sc_parts_in : FnScope n_parts_in ["thing", "around", "left"] (defScope (top 12)) := ⟨rfl, rfl, rfl, by decide +kernel, rfl, by decide +kernel, by decide +kernel⟩
theorem w_parts_in (A : Al K mg) : ∀ n : Nat, Fok PP w K mg base (TT K) (3 + n) 3 (m_parts_in n) (He.fAd K ("parts_in", none))
  | 0 => by
    obtain ⟨fd, F⟩ := A.d_parts_in
    exact fok_bad (ps := ["thing", "around", "left"]) F.kp (FunD.bindsN (ps := ["thing", "around", "left"]) F fun _ _ _ _ _ _ us hl => match us, hl with | [_, _, _], _ => rfl) rfl
  | n + 1 => by
    have ih := w_parts_in A n
    have nd : n_parts_in.Nodup := sc_parts_in.nd
    obtain ⟨fd, F⟩ := A.d_parts_in
    refine ⟨fd, ["thing", "around", "left"], fn_defD (k := 3 + n) (n := 6) F sc_parts_in rfl rfl rfl fun cdv A' outer s H E hr => ?_, F.kp, (FunD.bindsN (ps := ["thing", "around", "left"]) F fun _ _ _ _ _ _ us hl => match us, hl with | [_, _, _], _ => rfl), rfl⟩
    exact (mss_cons (ms_if (mt_cmp (cm_lt (u64 hr)) me_var me_int (nomark _))
 (mss_one (ms_ret (me_neg me_int)))
 mss_nil)
 (mss_cons (ms_if (mt_v (me_callP (df_of (w_is_integer A) A.g_is_integer) hr (by omega) takes_body rfl (ma_cons me_var ma_nil)))
 (mss_one (ms_ret (me_if (mt_v (me_callP (df_of (w_is_within A) A.g_is_within) hr (by omega) takes_body rfl (ma_cons me_var (ma_cons me_int (ma_cons (me_sub me_var me_int) ma_nil))))) me_int (me_neg me_int))))
 mss_nil)
 (mss_cons (ms_if (mt_w (mw_or (mt_not (mt_v (me_isi (bl A.b_isinstance bb_isinstance) (isi_3 A) me_var (clsE_ty (bl A.b_tuple bb_tuple))))) (mw_or (mt_cmp (cm_eq (u64 hr)) (me_len (bl A.b_len bb_len) (ma_cons me_var ma_nil)) me_int (nomark _)) (mw_or1 (mt_not (mt_v (me_callP (df_of (w_is_one_of A) A.g_is_one_of) hr (by omega) takes_body rfl (ma_cons (me_ix (u1 hr) me_var me_int) (ma_cons (me_tup (ma_cons (me_gstr A.s_FUN rfl) (ma_cons (me_gstr A.s_USE rfl) ma_nil))) ma_nil)))))))))
 (mss_one (ms_ret (me_neg me_int)))
 mss_nil)
 (mss_cons (ms_if (mt_cmp (cm_ne (u64 hr)) (me_len (bl A.b_len bb_len) (ma_cons me_var ma_nil)) (me_if (mt_cmp (cm_eq (u64 hr)) (me_ix (u1 hr) me_var me_int) (me_gstr A.s_FUN rfl) (nomark _)) me_int me_int) (nomark _))
 (mss_one (ms_ret (me_neg me_int)))
 mss_nil)
 (mss_cons (ms_if (mt_cmp (cm_eq (u64 hr)) (me_ix (u1 hr) me_var me_int) (me_gstr A.s_FUN rfl) (nomark _))
 (mss_cons (ms_set nd (me_callP (df_of ih A.g_parts_in) hr (by omega) takes_body rfl (ma_cons (me_ix (u1 hr) me_var me_int) (ma_cons (me_add me_var me_int) (ma_cons (me_sub me_var me_int) ma_nil)))))
 (mss_one (ms_ret (me_if (mt_cmp (cm_lt (u64 hr)) me_var me_int (nomark _)) (me_neg me_int) (me_add me_var me_int)))))
 mss_nil)
 (mss_cons (ms_set nd (me_callP (df_of ih A.g_parts_in) hr (by omega) takes_body rfl (ma_cons (me_ix (u1 hr) me_var me_int) (ma_cons me_var (ma_cons (me_sub me_var me_int) ma_nil)))))
 (mss_cons (ms_set nd (me_if (mt_cmp (cm_ge) me_var me_int (nomark _)) (me_callP (df_of ih A.g_parts_in) hr (by omega) takes_body rfl (ma_cons (me_ix (u1 hr) me_var me_int) (ma_cons me_var (ma_cons (me_sub (me_sub me_var me_int) me_var) ma_nil)))) (me_neg me_int)))
 (mss_one (ms_ret (me_if (mt_cmp (cm_lt (u64 hr)) me_var me_int (nomark _)) (me_neg me_int) (me_add (me_add me_var me_var) me_int)))))))))))
theorem sc_times_in : FnScope n_times_in ["term", "number"] (defScope (top 13)) := ⟨rfl, rfl, rfl, by decide +kernel, rfl, by decide +kernel, by decide +kernel⟩
theorem w_times_in (A : Al K mg) : ∀ n : Nat, Fok PP w K mg base (TT K) (2 + n) 2 (m_times_in n) (He.fAd K ("times_in", none))
  | 0 => by
    obtain ⟨fd, F⟩ := A.d_times_in
    exact fok_bad (ps := ["term", "number"]) F.kp (FunD.bindsN (ps := ["term", "number"]) F fun _ _ _ _ _ _ us hl => match us, hl with | [_, _], _ => rfl) rfl
  | n + 1 => by
    have ih := w_times_in A n
    have nd : n_times_in.Nodup := sc_times_in.nd
    obtain ⟨fd, F⟩ := A.d_times_in
    refine ⟨fd, ["term", "number"], fn_defD (k := 2 + n) (n := 3) F sc_times_in rfl rfl rfl fun cdv A' outer s H E hr => ?_, F.kp, (FunD.bindsN (ps := ["term", "number"]) F fun _ _ _ _ _ _ us hl => match us, hl with | [_, _], _ => rfl), rfl⟩
    exact (mss_cons (ms_if (mt_v (me_callP (df_of (w_is_integer A) A.g_is_integer) hr (by omega) takes_body rfl (ma_cons me_var ma_nil)))
 (mss_one (ms_ret (me_intc (bl A.b_int bb_int) (ma_cons (me_cmp (cm_eq (u64 hr)) me_var me_var (nomark _)) ma_nil))))
 mss_nil)
 (mss_one (ms_ret (me_sum rfl (bl A.b_sum bb_sum) (ma_cons (me_frz (MU.list (mu_comp (own := [("part", 2)]) rfl nd (mi_any (me_sl rfl me_var (mo_some me_int) mo_none)) (blk_of (N := n_times_in) (sc := (defScope (top 13))) (by rfl)) (fun _ _ => rfl) (fun _ _ _ _ _ => (mg_var nd)) (fun _ _ _ _ _ => mts_nil) (fun _ _ _ _ _ => (me_callP (df_of ih A.g_times_in) hr (by omega) takes_blk rfl (ma_cons me_var (ma_cons me_var ma_nil))))))) ma_nil)))))
theorem sc_all_once : FnScope n_all_once ["term", "around"] (defScope (top 14)) := ⟨rfl, rfl, rfl, by decide +kernel, rfl, by decide +kernel, by decide +kernel⟩
theorem w_all_once (A : Al K mg) : ∀ n : Nat, Fok PP w K mg base (TT K) (33 + n) 2 (m_all_once n) (He.fAd K ("all_once", none))
  | 0 => by
    obtain ⟨fd, F⟩ := A.d_all_once
    exact fok_bad (ps := ["term", "around"]) F.kp (FunD.bindsN (ps := ["term", "around"]) F fun _ _ _ _ _ _ us hl => match us, hl with | [_, _], _ => rfl) rfl
  | n + 1 => by
    have ih := w_all_once A n
    have nd : n_all_once.Nodup := sc_all_once.nd
    obtain ⟨fd, F⟩ := A.d_all_once
    refine ⟨fd, ["term", "around"], fn_defD (k := 33 + n) (n := 2) F sc_all_once rfl rfl rfl fun cdv A' outer s H E hr => ?_, F.kp, (FunD.bindsN (ps := ["term", "around"]) F fun _ _ _ _ _ _ us hl => match us, hl with | [_, _], _ => rfl), rfl⟩
    exact (mss_cons (ms_if (mt_v (me_callP (df_of (w_is_integer A) A.g_is_integer) hr (by omega) takes_body rfl (ma_cons me_var ma_nil)))
 (mss_one (ms_ret me_bl))
 mss_nil)
 (mss_cons (ms_if (mt_cmp (cm_eq (u64 hr)) (me_ix (u1 hr) me_var me_int) (me_gstr A.s_FUN rfl) (nomark _))
 (mss_one (ms_ret (me_and (me_cmp (cm_le) (me_callP (df_of (w_times_in A 30) A.g_times_in) hr (by omega) takes_body rfl (ma_cons (me_ix (u1 hr) me_var me_int) (ma_cons me_var ma_nil))) me_int (nomark _)) (me_one (me_callP (df_of ih A.g_all_once) hr (by omega) takes_body rfl (ma_cons (me_ix (u1 hr) me_var me_int) (ma_cons (me_add me_var me_int) ma_nil)))))))
 mss_nil)
 (mss_one (ms_ret (me_and (me_callP (df_of ih A.g_all_once) hr (by omega) takes_body rfl (ma_cons (me_ix (u1 hr) me_var me_int) (ma_cons me_var ma_nil))) (me_one (me_callP (df_of ih A.g_all_once) hr (by omega) takes_body rfl (ma_cons (me_ix (u1 hr) me_var me_int) (ma_cons me_var ma_nil)))))))))
theorem sc_is_affine : FnScope n_is_affine ["thing"] (defScope (top 15)) := ⟨rfl, rfl, rfl, by decide +kernel, rfl, by decide +kernel, by decide +kernel⟩
theorem w_is_affine (A : Al K mg) : Fok PP w K mg base (TT K) 64 1 m_is_affine (He.fAd K ("is_affine", none)) := by
  have nd : n_is_affine.Nodup := sc_is_affine.nd
  obtain ⟨fd, F⟩ := A.d_is_affine
  refine ⟨fd, ["thing"], fn_defD (k := 63) (n := 1) F sc_is_affine rfl rfl rfl fun cdv A' outer s H E hr => ?_, F.kp, (FunD.bindsN (ps := ["thing"]) F fun _ _ _ _ _ _ us hl => match us, hl with | [_], _ => rfl), rfl⟩
  exact (mss_one (ms_ret (me_and (me_cmp (cm_gt) (me_callP (df_of (w_parts_in A 30) A.g_parts_in) hr (by decide) takes_body rfl (ma_cons me_var (ma_cons me_int (ma_cons (me_gint A.i_MOST_PARTS) ma_nil)))) me_int (nomark _)) (me_one (me_callP (df_of (w_all_once A 30) A.g_all_once) hr (by decide) takes_body rfl (ma_cons me_var (ma_cons me_int ma_nil)))))))
theorem sc_check_affine : FnScope n_check_affine ["thing"] (defScope (top 16)) := ⟨rfl, rfl, rfl, by decide +kernel, rfl, by decide +kernel, by decide +kernel⟩
theorem w_check_affine (A : Al K mg) : Fok PP w K mg base (TT K) 65 1 m_check_affine (He.fAd K ("check_affine", none)) := by
  have nd : n_check_affine.Nodup := sc_check_affine.nd
  obtain ⟨fd, F⟩ := A.d_check_affine
  refine ⟨fd, ["thing"], fn_defD (k := 64) (n := 1) F sc_check_affine rfl rfl rfl fun cdv A' outer s H E hr => ?_, F.kp, (FunD.bindsN (ps := ["thing"]) F fun _ _ _ _ _ _ us hl => match us, hl with | [_], _ => rfl), rfl⟩
  exact (mss_one (ms_if (mt_not (mt_v (me_callP (df_of (w_is_affine A) A.g_is_affine) hr (by decide) takes_body rfl (ma_cons me_var ma_nil))))
 (mss_one (ms_raise0 rfl takes_body A.sup_NoAffine se_NoAffine (hr.mono (by decide)) rfl A.gx_NoAffine A.b_super htopP))
 mss_nil))
theorem sc_terms_with : FnScope n_terms_with ["size", "around"] (defScope (top 18)) := ⟨rfl, rfl, rfl, by decide +kernel, rfl, by decide +kernel, by decide +kernel⟩
theorem w_terms_with (A : Al K mg) : ∀ n : Nat, Fok PP w K mg base (TT K) (1 + n) 2 (m_terms_with n) (He.fAd K ("terms_with", none))
  | 0 => by
    obtain ⟨fd, F⟩ := A.d_terms_with
    exact fok_bad (ps := ["size", "around"]) F.kp (FunD.bindsN (ps := ["size", "around"]) F fun _ _ _ _ _ _ us hl => match us, hl with | [_, _], _ => rfl) rfl
  | n + 1 => by
    have ih := w_terms_with A n
    have nd : n_terms_with.Nodup := sc_terms_with.nd
    obtain ⟨fd, F⟩ := A.d_terms_with
    refine ⟨fd, ["size", "around"], fn_defD (k := 1 + n) (n := 7) F sc_terms_with rfl rfl rfl fun cdv A' outer s H E hr => ?_, F.kp, (FunD.bindsN (ps := ["size", "around"]) F fun _ _ _ _ _ _ us hl => match us, hl with | [_, _], _ => rfl), rfl⟩
    exact (mss_cons (ms_if (mt_cmp (cm_eq (u64 hr)) me_var me_int (nomark _))
 (mss_one (ms_ret (me_frz (ml_listRg1 rfl (bl A.b_list bb_list) rfl A.b_range me_var))))
 mss_nil)
 (mss_cons (ms_setU (mu_comp (own := [("inner", 5)]) rfl nd (mi_any (me_callP (df_of ih A.g_terms_with) hr (by omega) takes_body rfl (ma_cons (me_sub me_var me_int) (ma_cons (me_add me_var me_int) ma_nil)))) (blk_of (N := n_terms_with) (sc := (defScope (top 18))) (by rfl)) (fun _ _ => rfl) (fun _ _ _ _ _ => (mg_var nd)) (fun _ _ _ _ _ => mts_nil) (fun _ _ _ _ _ => (me_tup (ma_cons (me_gstr A.s_FUN rfl) (ma_cons me_var ma_nil))))) im_live)
 (mss_cons (ms_for (own := [3]) passes_body rfl (mi_range2 rfl A.b_range (ma_cons me_int (ma_cons (me_sub me_var me_int) ma_nil))) (mg_var nd)
 (mss_one (ms_for (own := [4]) passes_body rfl (mi_any (me_callP (df_of ih A.g_terms_with) hr (by omega) takes_body rfl (ma_cons me_var (ma_cons me_var ma_nil)))) (mg_var nd)
 (mss_one (ms_expr (me_extend me_var (ma_cons (me_frz (MU.list (mu_comp (own := [("other", 6)]) rfl nd (mi_any (me_callP (df_of ih A.g_terms_with) hr (by omega) takes_body rfl (ma_cons (me_sub (me_sub me_var me_int) me_var) (ma_cons me_var ma_nil)))) (blk_of (N := n_terms_with) (sc := (defScope (top 18))) (by rfl)) (fun _ _ => rfl) (fun _ _ _ _ _ => (mg_var nd)) (fun _ _ _ _ _ => mts_nil) (fun _ _ _ _ _ => (me_tup (ma_cons (me_gstr A.s_USE rfl) (ma_cons me_var (ma_cons me_var ma_nil)))))))) ma_nil) mc))))))
 (mss_one (ms_ret (me_fz me_var))))))
theorem sc_all_terms : FnScope n_all_terms ["size"] (defScope (top 17)) := ⟨rfl, rfl, rfl, by decide +kernel, rfl, by decide +kernel, by decide +kernel⟩
theorem w_all_terms (A : Al K mg) : Fok PP w K mg base (TT K) 64 1 m_all_terms (He.fAd K ("all_terms", none)) := by
  have nd : n_all_terms.Nodup := sc_all_terms.nd
  obtain ⟨fd, F⟩ := A.d_all_terms
  refine ⟨fd, ["size"], fn_defD (k := 63) (n := 2) F sc_all_terms rfl rfl rfl fun cdv A' outer s H E hr => ?_, F.kp, (FunD.bindsN (ps := ["size"]) F fun _ _ _ _ _ _ us hl => match us, hl with | [_], _ => rfl), rfl⟩
  exact (mss_cons (ms_if (mt_not (mt_v (me_callP (df_of (w_is_within A) A.g_is_within) hr (by decide) takes_body rfl (ma_cons me_var (ma_cons me_int (ma_cons me_int ma_nil))))))
 (mss_one (ms_raise0 rfl takes_body A.sup_NoNumber se_NoNumber (hr.mono (by decide)) rfl A.gx_NoNumber A.b_super htopP))
 mss_nil)
 (mss_one (ms_ret (me_live (MU.list (mu_comp (own := [("term", 1)]) rfl nd (mi_any (me_callP (df_of (w_terms_with A 8) A.g_terms_with) hr (by decide) takes_body rfl (ma_cons me_var (ma_cons me_int ma_nil)))) (blk_of (N := n_all_terms) (sc := (defScope (top 17))) (by rfl)) (fun _ _ => rfl) (fun _ _ _ _ _ => (mg_var nd)) (fun _ _ _ _ _ => (mts_one (mt_v (me_callP (df_of (w_all_once A 30) A.g_all_once) hr (by decide) takes_blk rfl (ma_cons me_var (ma_cons me_int ma_nil)))))) (fun _ _ _ _ _ => me_var)))))))
theorem sc_affine_text_in : FnScope n_affine_text_in ["term", "around"] (defScope (top 19)) := ⟨rfl, rfl, rfl, by decide +kernel, rfl, by decide +kernel, by decide +kernel⟩
theorem w_affine_text_in (A : Al K mg) : ∀ n : Nat, Fok PP w K mg base (TT K) (2 + n) 2 (m_affine_text_in n) (He.fAd K ("affine_text_in", none))
  | 0 => by
    obtain ⟨fd, F⟩ := A.d_affine_text_in
    exact fok_bad (ps := ["term", "around"]) F.kp (FunD.bindsN (ps := ["term", "around"]) F fun _ _ _ _ _ _ us hl => match us, hl with | [_, _], _ => rfl) rfl
  | n + 1 => by
    have ih := w_affine_text_in A n
    have nd : n_affine_text_in.Nodup := sc_affine_text_in.nd
    obtain ⟨fd, F⟩ := A.d_affine_text_in
    refine ⟨fd, ["term", "around"], fn_defD (k := 2 + n) (n := 4) F sc_affine_text_in rfl rfl rfl fun cdv A' outer s H E hr => ?_, F.kp, (FunD.bindsN (ps := ["term", "around"]) F fun _ _ _ _ _ _ us hl => match us, hl with | [_, _], _ => rfl), rfl⟩
    exact (mss_cons (ms_if (mt_v (me_callP (df_of (w_is_integer A) A.g_is_integer) hr (by omega) takes_body rfl (ma_cons me_var ma_nil)))
 (mss_one (ms_ret (me_add (me_str _) (me_strc (bl A.b_str bb_str) (ma_cons me_var ma_nil)))))
 mss_nil)
 (mss_cons (ms_if (mt_cmp (cm_eq (u64 hr)) (me_ix (u1 hr) me_var me_int) (me_gstr A.s_FUN rfl) (nomark _))
 (mss_one (ms_ret (me_add (me_add (me_add (me_str _) (me_strc (bl A.b_str bb_str) (ma_cons me_var ma_nil))) (me_str _)) (me_callP (df_of ih A.g_affine_text_in) hr (by omega) takes_body rfl (ma_cons (me_ix (u1 hr) me_var me_int) (ma_cons (me_add me_var me_int) ma_nil))))))
 mss_nil)
 (mss_cons (ms_par rfl nd (ma_cons (me_callP (df_of ih A.g_affine_text_in) hr (by omega) takes_body rfl (ma_cons (me_ix (u1 hr) me_var me_int) (ma_cons me_var ma_nil))) (ma_cons (me_callP (df_of ih A.g_affine_text_in) hr (by omega) takes_body rfl (ma_cons (me_ix (u1 hr) me_var me_int) (ma_cons me_var ma_nil))) ma_nil)))
 (mss_cons (ms_if (mt_w (mw_and (mt_not (mt_v (me_callP (df_of (w_is_integer A) A.g_is_integer) hr (by omega) takes_body rfl (ma_cons (me_ix (u1 hr) me_var me_int) ma_nil)))) (mw_and1 (mt_cmp (cm_eq (u64 hr)) (me_ix (u1 hr) (me_ix (u1 hr) me_var me_int) me_int) (me_gstr A.s_FUN rfl) (nomark _)))))
 (mss_one (ms_set nd (me_add (me_add (me_str _) me_var) (me_str _))))
 mss_nil)
 (mss_one (ms_ret (me_add (me_add me_var (me_str _)) (me_if (mt_v (me_callP (df_of (w_is_integer A) A.g_is_integer) hr (by omega) takes_body rfl (ma_cons (me_ix (u1 hr) me_var me_int) ma_nil))) me_var (me_add (me_add (me_str _) me_var) (me_str _))))))))))
theorem sc_affine_text : FnScope n_affine_text ["term"] (defScope (top 20)) := ⟨rfl, rfl, rfl, by decide +kernel, rfl, by decide +kernel, by decide +kernel⟩
theorem w_affine_text (A : Al K mg) : Fok PP w K mg base (TT K) 66 1 m_affine_text (He.fAd K ("affine_text", none)) := by
  have nd : n_affine_text.Nodup := sc_affine_text.nd
  obtain ⟨fd, F⟩ := A.d_affine_text
  refine ⟨fd, ["term"], fn_defD (k := 65) (n := 1) F sc_affine_text rfl rfl rfl fun cdv A' outer s H E hr => ?_, F.kp, (FunD.bindsN (ps := ["term"]) F fun _ _ _ _ _ _ us hl => match us, hl with | [_], _ => rfl), rfl⟩
  exact (mss_cons (ms_expr (me_callP (df_of (w_check_affine A) A.g_check_affine) hr (by decide) takes_body rfl (ma_cons me_var ma_nil)))
 (mss_one (ms_ret (me_callP (df_of (w_affine_text_in A 30) A.g_affine_text_in) hr (by decide) takes_body rfl (ma_cons me_var (ma_cons me_int ma_nil))))))
theorem sc__law_hand : FnScope n__law_hand ["script"] (defScope (top 22)) := ⟨rfl, rfl, rfl, by decide +kernel, rfl, by decide +kernel, by decide +kernel⟩
theorem w__law_hand (A : Al K mg) : Fok PP w K mg base (TT K) 1 1 m__law_hand (He.fAd K ("_law_hand", none)) := by
  have nd : n__law_hand.Nodup := sc__law_hand.nd
  obtain ⟨fd, F⟩ := A.d__law_hand
  refine ⟨fd, ["script"], fn_defD (k := 0) (n := 3) F sc__law_hand rfl rfl rfl fun cdv A' outer s H E hr => ?_, F.kp, (FunD.bindsN (ps := ["script"]) F fun _ _ _ _ _ _ us hl => match us, hl with | [_], _ => rfl), rfl⟩
  exact (mss_cons (ms_setU (mu_comp (own := [("cell", 2)]) rfl nd (mi_any (me_sl rfl me_var mo_none (mo_some me_int))) (blk_of (N := n__law_hand) (sc := (defScope (top 22))) (by rfl)) (fun _ _ => rfl) (fun _ _ _ _ _ => (mg_var nd)) (fun _ _ _ _ _ => mts_nil) (fun _ _ _ _ _ => (me_abs (bl A.b_abs bb_abs) (ma_cons (me_intc (bl A.b_int bb_int) (ma_cons me_var ma_nil)) ma_nil)))) im_frz)
 (mss_one (ms_ret (me_live (ml_lst (ma_cons me_var (ma_cons me_int (ma_cons me_int (ma_cons (me_add me_int (me_mul me_int (me_len (bl A.b_len bb_len) (ma_cons me_var ma_nil)))) (ma_cons me_int ma_nil))))))))))
theorem sc__law_draw : FnScope n__law_draw ["hand", "many"] (defScope (top 23)) := ⟨rfl, rfl, rfl, by decide +kernel, rfl, by decide +kernel, by decide +kernel⟩
theorem w__law_draw (A : Al K mg) : Fok PP w K mg base (TT K) 1 2 m__law_draw (He.fAd K ("_law_draw", none)) := by
  have nd : n__law_draw.Nodup := sc__law_draw.nd
  obtain ⟨fd, F⟩ := A.d__law_draw
  refine ⟨fd, ["hand", "many"], fn_defD (k := 0) (n := 5) F sc__law_draw rfl rfl rfl fun cdv A' outer s H E hr => ?_, F.kp, (FunD.bindsN (ps := ["hand", "many"]) F fun _ _ _ _ _ _ us hl => match us, hl with | [_, _], _ => rfl), rfl⟩
  exact (mss_cons (ms_if (mt_w (mw_and (mt_cmp (cm_eq (u64 hr)) (me_ix (u1 hr) me_var me_int) me_int (nomark _)) (mw_and1 (mt_cmp (cm_lt (u64 hr)) (me_ix (u1 hr) me_var me_int) (me_len (bl A.b_len bb_len) (ma_cons (me_ix (u1 hr) me_var me_int) ma_nil)) (nomark _)))))
 (mss_cons (ms_set nd (me_ix (u1 hr) (me_ix (u1 hr) me_var me_int) (me_ix (u1 hr) me_var me_int)))
 (mss_cons (ms_asg (own := []) (me_add (me_ix (u1 hr) me_var me_int) me_int) (mg_sub (Wx := bodyWx E) (u1 hr) me_var me_int))
 (mss_cons (ms_asg (own := []) (me_mod (me_intc (bl A.b_int bb_int) (ma_cons (me_add (me_add (me_mul (me_ix (u1 hr) me_var me_int) me_int) (me_mul me_var me_int)) me_int) ma_nil)) me_int) (mg_sub (Wx := bodyWx E) (u1 hr) me_var me_int))
 (mss_one (ms_asg (own := []) (me_if (mt_cmp (cm_ge) me_var (me_pow me_int me_int) (nomark _)) me_var me_int) (mg_sub (Wx := bodyWx E) (u1 hr) me_var me_int))))))
 mss_nil)
 (mss_cons (ms_if (mt_cmp (cm_gt) (me_ix (u1 hr) me_var me_int) me_int (nomark _))
 (mss_cons (ms_set nd (me_mod (me_intc (bl A.b_int bb_int) (ma_cons (me_ix (u1 hr) me_var me_int) ma_nil)) me_var))
 (mss_cons (ms_asg (own := []) (me_div (me_ix (u1 hr) me_var me_int) me_var) (mg_sub (Wx := bodyWx E) (u1 hr) me_var me_int))
 (mss_one (ms_ret me_var))))
 mss_nil)
 (mss_cons (ms_asg (own := []) (me_add (me_ix (u1 hr) me_var me_int) me_int) (mg_sub (Wx := bodyWx E) (u1 hr) me_var me_int))
 (mss_cons (ms_set nd (me_mod (me_intc (bl A.b_int bb_int) (ma_cons (me_mul (me_intc (bl A.b_int bb_int) (ma_cons (me_add (me_ix (u1 hr) me_var me_int) (me_mul me_int (me_ix (u1 hr) me_var me_int))) ma_nil)) me_int) ma_nil)) me_int))
 (mss_cons (ms_set nd (me_mod (me_intc (bl A.b_int bb_int) (ma_cons (me_mul me_var (me_add (me_div me_var me_int) me_int)) ma_nil)) me_int))
 (mss_cons (ms_set nd (me_mod (me_intc (bl A.b_int bb_int) (ma_cons (me_mul me_var (me_add (me_div me_var me_int) me_int)) ma_nil)) me_int))
 (mss_one (ms_ret (me_mod (me_intc (bl A.b_int bb_int) (ma_cons (me_div me_var me_int) ma_nil)) me_var)))))))))
theorem sc__law_some : FnScope n__law_some ["hand", "things"] (defScope (top 24)) := ⟨rfl, rfl, rfl, by decide +kernel, rfl, by decide +kernel, by decide +kernel⟩
theorem w__law_some (A : Al K mg) : Fok PP w K mg base (TT K) 2 2 m__law_some (He.fAd K ("_law_some", none)) := by
  have nd : n__law_some.Nodup := sc__law_some.nd
  obtain ⟨fd, F⟩ := A.d__law_some
  refine ⟨fd, ["hand", "things"], fn_defD (k := 1) (n := 2) F sc__law_some rfl rfl rfl fun cdv A' outer s H E hr => ?_, F.kp, (FunD.bindsN (ps := ["hand", "things"]) F fun _ _ _ _ _ _ us hl => match us, hl with | [_, _], _ => rfl), rfl⟩
  exact (mss_one (ms_ret (me_ix (u1 hr) me_var (me_call (df_of (w__law_draw A) A.g__law_draw) hr (by decide) takes_body rfl (ma_cons me_var (ma_cons (me_len (bl A.b_len bb_len) (ma_cons me_var ma_nil)) ma_nil))))))
theorem sc__law_term : FnScope n__law_term ["hand", "deep", "free", "parts_now"] (defScope (top 25)) := ⟨rfl, rfl, rfl, by decide +kernel, rfl, by decide +kernel, by decide +kernel⟩
theorem w__law_term (A : Al K mg) : ∀ n : Nat, Fok PP w K mg base (TT K) (3 + n) 4 (m__law_term n) (He.fAd K ("_law_term", none))
  | 0 => by
    obtain ⟨fd, F⟩ := A.d__law_term
    exact fok_bad (ps := ["hand", "deep", "free", "parts_now"]) F.kp (FunD.bindsN (ps := ["hand", "deep", "free", "parts_now"]) F fun _ _ _ _ _ _ us hl => match us, hl with | [_, _, _, _], _ => rfl) rfl
  | n + 1 => by
    have ih := w__law_term A n
    have nd : n__law_term.Nodup := sc__law_term.nd
    obtain ⟨fd, F⟩ := A.d__law_term
    refine ⟨fd, ["hand", "deep", "free", "parts_now"], fn_defD (k := 3 + n) (n := 10) F sc__law_term rfl rfl rfl fun cdv A' outer s H E hr => ?_, F.kp, (FunD.bindsN (ps := ["hand", "deep", "free", "parts_now"]) F fun _ _ _ _ _ _ us hl => match us, hl with | [_, _, _, _], _ => rfl), rfl⟩
    exact (mss_cons (ms_set nd (me_call (df_of (w__law_draw A) A.g__law_draw) hr (by omega) takes_body rfl (ma_cons me_var (ma_cons me_int ma_nil))))
 (mss_cons (ms_if (mt_w (mw_and (mt_cmp (cm_gt) me_var me_int (nomark _)) (mw_and1 (mt_cmp (cm_lt (u64 hr)) me_var me_int (nomark _)))))
 (mss_cons (ms_set nd (me_frz (MU.list (mu_comp (own := [("n", 9)]) rfl nd (mi_any me_var) (blk_of (N := n__law_term) (sc := (defScope (top 25))) (by rfl)) (fun _ _ => rfl) (fun _ _ _ _ _ => (mg_var nd)) (fun _ _ _ _ _ => (mts_one (mt_cmp (cm_eq (u64 hr)) (me_call (df_of (w__law_draw A) A.g__law_draw) hr (by omega) takes_blk rfl (ma_cons me_var (ma_cons me_int ma_nil))) me_int (nomark _)))) (fun _ _ _ _ _ => me_var)))))
 (mss_cons (ms_par rfl nd (ma_cons (me_frz (MU.list (mu_comp (own := [("n", 9)]) rfl nd (mi_any me_var) (blk_of (N := n__law_term) (sc := (defScope (top 25))) (by rfl)) (fun _ _ => rfl) (fun _ _ _ _ _ => (mg_var nd)) (fun _ _ _ _ _ => (mts_one (mt_cmp (cm_notin (u66 hr)) me_var me_var (by rfl)))) (fun _ _ _ _ _ => me_var)))) (ma_cons (me_add me_int (me_call (df_of (w__law_draw A) A.g__law_draw) hr (by omega) takes_body rfl (ma_cons me_var (ma_cons (me_sub me_var me_int) ma_nil)))) ma_nil)))
 (mss_cons (ms_set nd (me_call (df_of ih A.g__law_term) hr (by omega) takes_body rfl (ma_cons me_var (ma_cons me_var (ma_cons me_var (ma_cons me_var ma_nil))))))
 (mss_one (ms_ret (me_tup (ma_cons (me_str _) (ma_cons me_var (ma_cons (me_call (df_of ih A.g__law_term) hr (by omega) takes_body rfl (ma_cons me_var (ma_cons me_var (ma_cons me_var (ma_cons (me_sub (me_sub me_var me_int) me_var) ma_nil))))) ma_nil)))))))))
 mss_nil)
 (mss_cons (ms_if (mt_w (mw_or (mt_cmp (cm_eq (u64 hr)) (me_len (bl A.b_len bb_len) (ma_cons me_var ma_nil)) me_int (nomark _)) (mw_or1 (mt_w (mw_and (mt_cmp (cm_gt) me_var me_int (nomark _)) (mw_and1 (mt_cmp (cm_lt (u64 hr)) me_var me_int (nomark _))))))))
 (mss_one (ms_ret (me_tup (ma_cons (me_str _) (ma_cons (me_call (df_of ih A.g__law_term) hr (by omega) takes_body rfl (ma_cons me_var (ma_cons (me_add me_var me_int) (ma_cons (me_frz (ml_cat me_var (me_frz (ml_lst (ma_cons me_var ma_nil))))) (ma_cons (me_sub me_var me_int) ma_nil))))) ma_nil)))))
 mss_nil)
 (mss_one (ms_ret (me_call (df_of (w__law_some A) A.g__law_some) hr (by omega) takes_body rfl (ma_cons me_var (ma_cons me_var ma_nil))))))))
theorem sc__law_parts : FnScope n__law_parts ["term"] (defScope (top 27)) := ⟨rfl, rfl, rfl, by decide +kernel, rfl, by decide +kernel, by decide +kernel⟩
theorem w__law_parts (A : Al K mg) : ∀ n : Nat, Fok PP w K mg base (TT K) (1 + n) 1 (m__law_parts n) (He.fAd K ("_law_parts", none))
  | 0 => by
    obtain ⟨fd, F⟩ := A.d__law_parts
    exact fok_bad (ps := ["term"]) F.kp (FunD.bindsN (ps := ["term"]) F fun _ _ _ _ _ _ us hl => match us, hl with | [_], _ => rfl) rfl
  | n + 1 => by
    have ih := w__law_parts A n
    have nd : n__law_parts.Nodup := sc__law_parts.nd
    obtain ⟨fd, F⟩ := A.d__law_parts
    refine ⟨fd, ["term"], fn_defD (k := 1 + n) (n := 2) F sc__law_parts rfl rfl rfl fun cdv A' outer s H E hr => ?_, F.kp, (FunD.bindsN (ps := ["term"]) F fun _ _ _ _ _ _ us hl => match us, hl with | [_], _ => rfl), rfl⟩
    exact (mss_one (ms_ret (me_if (mt_v (me_isi (bl A.b_isinstance bb_isinstance) (isi_3 A) me_var (clsE_ty (bl A.b_tuple bb_tuple)))) (me_add me_int (me_sum rfl (bl A.b_sum bb_sum) (ma_cons (me_frz (MU.list (mu_comp (own := [("part", 1)]) rfl nd (mi_any (me_sl rfl me_var (mo_some me_int) mo_none)) (blk_of (N := n__law_parts) (sc := (defScope (top 27))) (by rfl)) (fun _ _ => rfl) (fun _ _ _ _ _ => (mg_var nd)) (fun _ _ _ _ _ => mts_nil) (fun _ _ _ _ _ => (me_callP (df_of ih A.g__law_parts) hr (by omega) takes_blk rfl (ma_cons me_var ma_nil)))))) ma_nil))) me_int)))
theorem sc__law_closed : FnScope n__law_closed ["hand", "most"] (defScope (top 26)) := ⟨rfl, rfl, rfl, by decide +kernel, rfl, by decide +kernel, by decide +kernel⟩
theorem w__law_closed (A : Al K mg) : Fok PP w K mg base (TT K) 32 2 m__law_closed (He.fAd K ("_law_closed", none)) := by
  have nd : n__law_closed.Nodup := sc__law_closed.nd
  obtain ⟨fd, F⟩ := A.d__law_closed
  refine ⟨fd, ["hand", "most"], fn_defD (k := 31) (n := 4) F sc__law_closed rfl rfl rfl fun cdv A' outer s H E hr => ?_, F.kp, (FunD.bindsN (ps := ["hand", "most"]) F fun _ _ _ _ _ _ us hl => match us, hl with | [_, _], _ => rfl), rfl⟩
  exact (mss_cons (ms_for (own := [2]) passes_body rfl (mi_range1 rfl A.b_range (ma_cons me_int ma_nil)) (mg_var nd)
 (mss_cons (ms_set nd (me_call (df_of (w__law_term A 16) A.g__law_term) hr (by decide) takes_body rfl (ma_cons me_var (ma_cons me_int (ma_cons (me_frz (ml_lst ma_nil)) (ma_cons (me_add me_int (me_call (df_of (w__law_draw A) A.g__law_draw) hr (by decide) takes_body rfl (ma_cons me_var (ma_cons (me_sub me_var me_int) ma_nil)))) ma_nil))))))
 (mss_one (ms_if (mt_cmp (cm_le) (me_callP (df_of (w__law_parts A 30) A.g__law_parts) hr (by decide) takes_body rfl (ma_cons me_var ma_nil)) (me_add me_var me_int) (nomark _))
 (mss_one (ms_ret me_var))
 mss_nil))))
 (mss_one (ms_ret (me_tup (ma_cons (me_str _) (ma_cons (me_tup (ma_cons (me_str _) (ma_cons (me_tup (ma_cons (me_str _) (ma_cons me_int ma_nil))) ma_nil))) (ma_cons (me_tup (ma_cons (me_str _) (ma_cons me_int ma_nil))) ma_nil)))))))
theorem sc__law_every : FnScope n__law_every ["parts_now", "deep", "free"] (defScope (top 28)) := ⟨rfl, rfl, rfl, by decide +kernel, rfl, by decide +kernel, by decide +kernel⟩
theorem w__law_every (A : Al K mg) : ∀ n : Nat, Fok PP w K mg base (TT K) (1 + n) 3 (m__law_every n) (He.fAd K ("_law_every", none))
  | 0 => by
    obtain ⟨fd, F⟩ := A.d__law_every
    exact fok_bad (ps := ["parts_now", "deep", "free"]) F.kp (FunD.bindsN (ps := ["parts_now", "deep", "free"]) F fun _ _ _ _ _ _ us hl => match us, hl with | [_, _, _], _ => rfl) rfl
  | n + 1 => by
    have ih := w__law_every A n
    have nd : n__law_every.Nodup := sc__law_every.nd
    obtain ⟨fd, F⟩ := A.d__law_every
    refine ⟨fd, ["parts_now", "deep", "free"], fn_defD (k := 1 + n) (n := 12) F sc__law_every rfl rfl rfl fun cdv A' outer s H E hr => ?_, F.kp, (FunD.bindsN (ps := ["parts_now", "deep", "free"]) F fun _ _ _ _ _ _ us hl => match us, hl with | [_, _, _], _ => rfl), rfl⟩
    exact (mss_cons (ms_set nd (me_if (mt_cmp (cm_eq (u64 hr)) me_var me_int (nomark _)) (me_live (MU.list (mu_comp (own := [("n", 11)]) rfl nd (mi_any me_var) (blk_of (N := n__law_every) (sc := (defScope (top 28))) (by rfl)) (fun _ _ => rfl) (fun _ _ _ _ _ => (mg_var nd)) (fun _ _ _ _ _ => mts_nil) (fun _ _ _ _ _ => (me_tup (ma_cons me_var (ma_cons (me_tup (ma_cons me_var ma_nil)) ma_nil))))))) (me_live (ml_lst ma_nil))))
 (mss_cons (ms_if (mt_cmp (cm_gt) me_var me_int (nomark _))
 (mss_one (ms_for (own := [4, 5]) passes_body rfl (mi_any (me_callP (df_of ih A.g__law_every) hr (by omega) takes_body rfl (ma_cons (me_sub me_var me_int) (ma_cons (me_add me_var me_int) (ma_cons (me_add me_var (me_tup (ma_cons me_var ma_nil))) ma_nil))))) (mg_tup rfl (mgs_cons (mg_var nd) (mgs_cons (mg_var nd) mgs_nil)))
 (mss_one (ms_expr (me_append me_var (ma_cons (me_tup (ma_cons (me_tup (ma_cons (me_str _) (ma_cons me_var ma_nil))) (ma_cons (me_tuplec (bl A.b_tuple bb_tuple) (ma_cons (me_frz (MU.list (mu_comp (own := [("n", 11)]) rfl nd (mi_any me_var) (blk_of (N := n__law_every) (sc := (defScope (top 28))) (by rfl)) (fun _ _ => rfl) (fun _ _ _ _ _ => (mg_var nd)) (fun _ _ _ _ _ => (mts_one (mt_cmp (cm_ne (u64 hr)) me_var me_var (nomark _)))) (fun _ _ _ _ _ => me_var)))) ma_nil)) ma_nil))) ma_nil) mc)))))
 mss_nil)
 (mss_cons (ms_for (own := [6]) passes_body rfl (mi_range2 rfl A.b_range (ma_cons me_int (ma_cons (me_sub me_var me_int) ma_nil))) (mg_var nd)
 (mss_one (ms_for (own := [7, 5]) passes_body rfl (mi_any (me_callP (df_of ih A.g__law_every) hr (by omega) takes_body rfl (ma_cons me_var (ma_cons me_var (ma_cons me_var ma_nil))))) (mg_tup rfl (mgs_cons (mg_var nd) (mgs_cons (mg_var nd) mgs_nil)))
 (mss_cons (ms_set nd (me_tuplec (bl A.b_tuple bb_tuple) (ma_cons (me_frz (MU.list (mu_comp (own := [("n", 11)]) rfl nd (mi_any me_var) (blk_of (N := n__law_every) (sc := (defScope (top 28))) (by rfl)) (fun _ _ => rfl) (fun _ _ _ _ _ => (mg_var nd)) (fun _ _ _ _ _ => (mts_one (mt_cmp (cm_notin (u66 hr)) me_var me_var (by rfl)))) (fun _ _ _ _ _ => me_var)))) ma_nil)))
 (mss_one (ms_for (own := [9, 10]) passes_body rfl (mi_any (me_callP (df_of ih A.g__law_every) hr (by omega) takes_body rfl (ma_cons (me_sub (me_sub me_var me_int) me_var) (ma_cons me_var (ma_cons me_var ma_nil))))) (mg_tup rfl (mgs_cons (mg_var nd) (mgs_cons (mg_var nd) mgs_nil)))
 (mss_one (ms_expr (me_append me_var (ma_cons (me_tup (ma_cons (me_tup (ma_cons (me_str _) (ma_cons me_var (ma_cons me_var ma_nil)))) (ma_cons (me_add me_var me_var) ma_nil))) ma_nil) mc)))))))))
 (mss_one (ms_ret (me_fz me_var))))))
theorem sc__law_text : FnScope n__law_text ["term", "deep"] (defScope (top 29)) := ⟨rfl, rfl, rfl, by decide +kernel, rfl, by decide +kernel, by decide +kernel⟩
theorem w__law_text (A : Al K mg) : ∀ n : Nat, Fok PP w K mg base (TT K) (1 + n) 2 (m__law_text n) (He.fAd K ("_law_text", none))
  | 0 => by
    obtain ⟨fd, F⟩ := A.d__law_text
    exact fok_bad (ps := ["term", "deep"]) F.kp (FunD.bindsN (ps := ["term", "deep"]) F fun _ _ _ _ _ _ us hl => match us, hl with | [_, _], _ => rfl) rfl
  | n + 1 => by
    have ih := w__law_text A n
    have nd : n__law_text.Nodup := sc__law_text.nd
    obtain ⟨fd, F⟩ := A.d__law_text
    refine ⟨fd, ["term", "deep"], fn_defD (k := 1 + n) (n := 4) F sc__law_text rfl rfl rfl fun cdv A' outer s H E hr => ?_, F.kp, (FunD.bindsN (ps := ["term", "deep"]) F fun _ _ _ _ _ _ us hl => match us, hl with | [_, _], _ => rfl), rfl⟩
    exact (mss_cons (ms_if (mt_not (mt_v (me_isi (bl A.b_isinstance bb_isinstance) (isi_3 A) me_var (clsE_ty (bl A.b_tuple bb_tuple)))))
 (mss_one (ms_ret (me_add (me_str _) (me_strc (bl A.b_str bb_str) (ma_cons me_var ma_nil)))))
 mss_nil)
 (mss_cons (ms_if (mt_cmp (cm_eq (u64 hr)) (me_ix (u1 hr) me_var me_int) (me_str _) (nomark _))
 (mss_one (ms_ret (me_add (me_add (me_add (me_str _) (me_strc (bl A.b_str bb_str) (ma_cons me_var ma_nil))) (me_str _)) (me_callP (df_of ih A.g__law_text) hr (by omega) takes_body rfl (ma_cons (me_ix (u1 hr) me_var me_int) (ma_cons (me_add me_var me_int) ma_nil))))))
 mss_nil)
 (mss_cons (ms_par rfl nd (ma_cons (me_callP (df_of ih A.g__law_text) hr (by omega) takes_body rfl (ma_cons (me_ix (u1 hr) me_var me_int) (ma_cons me_var ma_nil))) (ma_cons (me_callP (df_of ih A.g__law_text) hr (by omega) takes_body rfl (ma_cons (me_ix (u1 hr) me_var me_int) (ma_cons me_var ma_nil))) ma_nil)))
 (mss_cons (ms_set nd (me_if (mt_w (mw_and (mt_v (me_isi (bl A.b_isinstance bb_isinstance) (isi_3 A) (me_ix (u1 hr) me_var me_int) (clsE_ty (bl A.b_tuple bb_tuple)))) (mw_and1 (mt_cmp (cm_eq (u64 hr)) (me_ix (u1 hr) (me_ix (u1 hr) me_var me_int) me_int) (me_str _) (nomark _))))) (me_add (me_add (me_str _) me_var) (me_str _)) me_var))
 (mss_one (ms_ret (me_add (me_add me_var (me_str _)) (me_if (mt_v (me_isi (bl A.b_isinstance bb_isinstance) (isi_3 A) (me_ix (u1 hr) me_var me_int) (clsE_ty (bl A.b_tuple bb_tuple)))) (me_add (me_add (me_str _) me_var) (me_str _)) me_var))))))))
theorem sc__law_word : FnScope n__law_word ["call"] (defScope (top 30)) := ⟨rfl, rfl, rfl, by decide +kernel, rfl, by decide +kernel, by decide +kernel⟩
theorem w__law_word (A : Al K mg) (k : Nat) : LamFok PP w K mg base (TT K) (0 + k) m__law_word (He.fAd K ("_law_word", none)) := by
  have nd : n__law_word.Nodup := sc__law_word.nd
  obtain ⟨fd, F⟩ := A.d__law_word
  refine fn_defL (k := 0 + k) (n := 4) (b := fun th => _) F (FunD.bindsN (ps := ["call"]) F fun _ _ _ _ _ _ us hl => match us, hl with | [_], _ => rfl) sc__law_word rfl rfl (by decide) rfl fun cdv A' outer s H E fl Pn mono th hr LA => ?_
  exact (mss_cons (ms_set nd (me_str _))
 (mss_cons (ms_tryE rfl rfl nd rfl rfl ⟨rfl, by decide, .inl A.gx_NetError⟩ takes_body (cat_NetError A) rfl (fun W_ pn_ xe_ tkT poT =>
 (mss_one (ms_expr (me_act (mono := mono) LA rfl hr (Nat.le_refl _) tkT rfl (Or.inl rfl)))))
 (fun a_ oe_ cls_ d_ pn_ er hz hf =>
 (mss_cons (ms_set nd (me_frz (ml_lst (ma_cons (me_isEF (bl A.b_isinstance bb_isinstance) (ise_NoAffine A) hz hf (clsE_own rfl A.gx_NoAffine)) (ma_cons (me_isEF (bl A.b_isinstance bb_isinstance) (ise_NoNumber A) hz hf (clsE_own rfl A.gx_NoNumber)) ma_nil)))))
 (mss_cons (ms_set nd (me_str _))
 (mss_one (ms_if (mt_w (mw_and (mt_cmp (cm_eq (u64 (hr :) :)) (me_count (u66 (hr :) :) me_var (ma_cons me_bl ma_nil) mc) me_int (nomark _)) (mw_and1 (mt_v (me_isEF (bl A.b_isinstance bb_isinstance) (ise_ValueError A) hz hf (clsE_ty (bl A.b_ValueError bb_ValueError)))))))
 (mss_one (ms_set nd (me_ix (u1 (hr :) :) (me_frz (ml_lst (ma_cons (me_str _) (ma_cons (me_str _) ma_nil)))) (me_index (u66 (hr :) :) me_var (ma_cons me_bl ma_nil) mc))))
 mss_nil))))))
 (mss_one (ms_ret me_var))))
theorem sc_law : FnScope n_law ["script"] (defScope (top 31)) := ⟨rfl, rfl, rfl, by decide +kernel, rfl, by decide +kernel, by decide +kernel⟩
theorem w_lawF (A : Al K mg) (TB : LamX.TabB base mg (He.cT K ("law", none)).1 (He.cT K ("law", none)).2) {fd : FuncData} (F : FunD K "law" "law" (defArgs (top 31)) (defBody (top 31)) (defScope (top 31)) [] [] (He.fAd K ("law", none)) fd) : FnOk PP w K mg base (L2.CX PP w) 69 (He.fAd K ("law", none)) fd ["script"] (spM (TT K) 1 m_law) := by
  have nd : n_law.Nodup := sc_law.nd
  refine fn_defC (k := 68) (n := 13) F sc_law rfl rfl rfl fun cdv A' outer s H E rfl_code hr => ?_
  exact (mss_cons (ms_set nd (me_call (df_of (w__law_hand A) A.g__law_hand) hr (by decide) takes_body rfl (ma_cons me_var ma_nil)))
 (mss_cons (ms_if (mt_cmp (cm_ne (u64 hr)) (me_callP (df_of (w_all_terms A) A.g_all_terms) hr (by decide) takes_body rfl (ma_cons me_int ma_nil)) (me_frz (ml_lst ma_nil)) (nomark _))
 (mss_one (ms_ret me_bl))
 mss_nil)
 (mss_cons (ms_if (mt_cmp (cm_ne (u64 hr)) (me_callP (df_of (w_all_terms A) A.g_all_terms) hr (by decide) takes_body rfl (ma_cons me_int ma_nil)) (me_frz (ml_lst (ma_cons (me_tup (ma_cons (me_str _) (ma_cons me_int ma_nil))) ma_nil))) (nomark _))
 (mss_one (ms_ret me_bl))
 mss_nil)
 (mss_cons (ms_if (mt_cmp (cm_ne (u64 hr)) (me_callP (df_of (w_affine_text A) A.g_affine_text) hr (by decide) takes_body rfl (ma_cons (me_tup (ma_cons (me_str _) (ma_cons (me_tup (ma_cons (me_str _) (ma_cons (me_tup (ma_cons (me_str _) (ma_cons me_int (ma_cons me_int ma_nil)))) ma_nil))) ma_nil))) ma_nil)) (me_str _) (nomark _))
 (mss_one (ms_ret me_bl))
 mss_nil)
 (mss_cons (ms_if (mt_cmp (cm_ne (u64 hr)) (me_callP (df_of (w_affine_text A) A.g_affine_text) hr (by decide) takes_body rfl (ma_cons (me_tup (ma_cons (me_str _) (ma_cons (me_tup (ma_cons (me_str _) (ma_cons me_int ma_nil))) (ma_cons (me_tup (ma_cons (me_str _) (ma_cons (me_tup (ma_cons (me_str _) (ma_cons me_int ma_nil))) (ma_cons (me_tup (ma_cons (me_str _) (ma_cons me_int ma_nil))) ma_nil)))) ma_nil)))) ma_nil)) (me_str _) (nomark _))
 (mss_one (ms_ret me_bl))
 mss_nil)
 (mss_cons (ms_set nd (me_if (mt_cmp (cm_eq (u64 hr)) (me_call (df_of (w__law_draw A) A.g__law_draw) hr (by decide) takes_body rfl (ma_cons me_var (ma_cons me_int ma_nil))) me_int (nomark _)) me_int (me_add me_int (me_call (df_of (w__law_draw A) A.g__law_draw) hr (by decide) takes_body rfl (ma_cons me_var (ma_cons me_int ma_nil))))))
 (mss_cons (ms_par rfl nd (ma_cons (me_callL (df_of (w_all_terms A) A.g_all_terms) hr (by decide) takes_body rfl (ma_cons me_var ma_nil)) (ma_cons (me_frz (MU.list (mu_comp (own := [("term", 7), ("used", 11)]) rfl nd (mi_any (me_callP (df_of (w__law_every A 8) A.g__law_every) hr (by decide) takes_body rfl (ma_cons me_var (ma_cons me_int (ma_cons (me_tup ma_nil) ma_nil))))) (blk_of (N := n_law) (sc := (defScope (top 31))) (by rfl)) (fun _ _ => rfl) (fun _ _ _ _ _ => (mg_tup rfl (mgs_cons (mg_var nd) (mgs_cons (mg_var nd) mgs_nil)))) (fun _ _ _ _ _ => mts_nil) (fun _ _ _ _ _ => me_var)))) ma_nil)))
 (mss_cons (ms_if (mt_cmp (cm_ne (u64 hr)) (me_len (bl A.b_len bb_len) (ma_cons me_var ma_nil)) (me_len (bl A.b_len bb_len) (ma_cons me_var ma_nil)) (nomark _))
 (mss_one (ms_ret me_bl))
 mss_nil)
 (mss_cons (ms_if (mt_cmp (cm_ne (u64 hr)) (me_frz (ml_sorted (u64 hr) (bl A.b_sorted bb_sorted) (ma_cons (me_frz (MU.list (mu_comp (own := [("term", 7)]) rfl nd (mi_any me_var) (blk_of (N := n_law) (sc := (defScope (top 31))) (by rfl)) (fun _ _ => rfl) (fun _ _ _ _ _ => (mg_var nd)) (fun _ _ _ _ _ => mts_nil) (fun _ _ _ _ _ => (me_repr hr.gd (u64 hr) (bl A.b_repr bb_repr) (ma_cons me_var ma_nil)))))) ma_nil))) (me_frz (ml_sorted (u64 hr) (bl A.b_sorted bb_sorted) (ma_cons (me_frz (MU.list (mu_comp (own := [("term", 7)]) rfl nd (mi_any me_var) (blk_of (N := n_law) (sc := (defScope (top 31))) (by rfl)) (fun _ _ => rfl) (fun _ _ _ _ _ => (mg_var nd)) (fun _ _ _ _ _ => mts_nil) (fun _ _ _ _ _ => (me_repr hr.gd (u64 hr) (bl A.b_repr bb_repr) (ma_cons me_var ma_nil)))))) ma_nil))) (nomark _))
 (mss_one (ms_ret me_bl))
 mss_nil)
 (mss_cons (ms_setU (mu_comp (own := [("term", 7)]) rfl nd (mi_any me_var) (blk_of (N := n_law) (sc := (defScope (top 31))) (by rfl)) (fun _ _ => rfl) (fun _ _ _ _ _ => (mg_var nd)) (fun _ _ _ _ _ => mts_nil) (fun _ _ _ _ _ => (me_if (mt_cmp (cm_eq (u64 hr)) (me_ix (u1 hr) me_var me_int) (me_str _) (nomark _)) me_int (me_callP (df_of (w__law_parts A 30) A.g__law_parts) hr (by decide) takes_blk rfl (ma_cons (me_ix (u1 hr) me_var me_int) ma_nil))))) im_frz)
 (mss_cons (ms_if (mt_cmp (cm_ne (u64 hr)) me_var (me_frz (ml_sorted (u64 hr) (bl A.b_sorted bb_sorted) (ma_cons me_var ma_nil))) (nomark _))
 (mss_one (ms_ret me_bl))
 mss_nil)
 (mss_cons (ms_if (mt_not (mt_v (me_all rfl (bl A.b_all bb_all) (ma_cons (me_frz (MU.list (mu_comp (own := [("term", 7)]) rfl nd (mi_any me_var) (blk_of (N := n_law) (sc := (defScope (top 31))) (by rfl)) (fun _ _ => rfl) (fun _ _ _ _ _ => (mg_var nd)) (fun _ _ _ _ _ => mts_nil) (fun _ _ _ _ _ => (me_cmp cm_isB (me_callP (df_of (w_is_affine A) A.g_is_affine) hr (by decide) takes_blk rfl (ma_cons me_var ma_nil)) me_bl (nomark _)))))) ma_nil))))
 (mss_one (ms_ret me_bl))
 mss_nil)
 (mss_cons (ms_set nd (me_liveD md_nil))
 (mss_cons (ms_for (own := [7]) passes_body rfl (mi_any (me_frz (ml_cat me_var (me_frz (MU.list (mu_comp (own := [("turn", 12)]) rfl nd (mi_range1 rfl A.b_range (ma_cons me_int ma_nil)) (blk_of (N := n_law) (sc := (defScope (top 31))) (by rfl)) (fun _ _ => rfl) (fun _ _ _ _ _ => (mg_var nd)) (fun _ _ _ _ _ => mts_nil) (fun _ _ _ _ _ => (me_call (df_of (w__law_closed A) A.g__law_closed) hr (by decide) takes_blk rfl (ma_cons me_var (ma_cons me_int ma_nil)))))))))) (mg_var nd)
 (mss_cons (ms_set nd (me_callP (df_of (w__law_text A 30) A.g__law_text) hr (by decide) takes_body rfl (ma_cons me_var (ma_cons me_int ma_nil))))
 (mss_cons (ms_if (mt_reprNeT hr.gd (u64 hr) (bl A.b_repr bb_repr) (me_callP (df_of (w_affine_text A) A.g_affine_text) hr (by decide) takes_body rfl (ma_cons me_var ma_nil)) me_var)
 (mss_one (ms_ret me_bl))
 mss_nil)
 (mss_one (ms_if (mt_cmp (cm_ne (u64 hr)) (me_setd me_var (ma_cons me_var (ma_cons me_var ma_nil)) mc) me_var (nomark _))
 (mss_one (ms_ret me_bl))
 mss_nil)))))
 (mss_cons (ms_expr (me_append me_var (ma_cons me_non ma_nil) mc))
 (mss_cons (ms_if (mt_cmp (cm_ne (u64 hr)) (me_len (bl A.b_len bb_len) (ma_cons (me_callP (df_of (w_all_terms A) A.g_all_terms) hr (by decide) takes_body rfl (ma_cons me_var ma_nil)) ma_nil)) (me_len (bl A.b_len bb_len) (ma_cons me_var ma_nil)) (nomark _))
 (mss_one (ms_ret me_bl))
 mss_nil)
 (mss_cons (ms_set nd (me_call (df_of (w__law_some A) A.g__law_some) hr (by decide) takes_body rfl (ma_cons me_var (ma_cons (me_frz (ml_lst (ma_cons me_int (ma_cons me_int (ma_cons (me_neg me_int) (ma_cons me_bl (ma_cons me_non (ma_cons (me_str _) (ma_cons (me_tup (ma_cons me_int ma_nil)) (ma_cons (me_frz (ml_lst (ma_cons me_int ma_nil))) (ma_cons (me_frzD md_nil) (ma_cons (me_pow me_int me_int) ma_nil)))))))))))) ma_nil))))
 (mss_cons (ms_set nd (me_call (df_of (w__law_some A) A.g__law_some) hr (by decide) takes_body rfl (ma_cons me_var (ma_cons (me_frz (ml_lst (ma_cons me_int (ma_cons me_non (ma_cons (me_tup (ma_cons (me_str _) (ma_cons (me_tup (ma_cons (me_str _) (ma_cons me_int (ma_cons me_int ma_nil)))) ma_nil))) (ma_cons (me_tup (ma_cons (me_str _) (ma_cons me_int ma_nil))) (ma_cons (me_frz (ml_lst (ma_cons (me_str _) (ma_cons me_int ma_nil)))) (ma_cons (me_tup (ma_cons (me_str _) (ma_cons me_bl ma_nil))) (ma_cons (me_tup ma_nil) (ma_cons (me_frzD md_nil) (ma_cons (me_str _) ma_nil))))))))))) ma_nil))))
 (mss_one (ms_ret (me_cmp (cm_eq (u64 hr)) (me_frz (ml_lst (ma_cons (me_lam (k := 66) (l := [9]) (w__law_word A 67) A.g__law_word rfl rfl TB rfl_code List.mem_cons_self (lam_hu _ _) hr (by decide) takes_body (LamX.lamS_by (by rfl)) (fun _ _ _ _ _ => rfl) (fun A_ o_ s_ H_ E_ f_ c_ hr => (me_callP (df_of (w_all_terms A) A.g_all_terms) hr (by decide) takes_lam rfl (ma_cons me_var ma_nil)))) (ma_cons (me_lam (k := 66) (l := [10]) (w__law_word A 67) A.g__law_word rfl rfl TB rfl_code List.mem_cons_self (lam_hu _ _) hr (by decide) takes_body (LamX.lamS_by (by rfl)) (fun _ _ _ _ _ => rfl) (fun A_ o_ s_ H_ E_ f_ c_ hr => (me_callP (df_of (w_affine_text A) A.g_affine_text) hr (by decide) takes_lam rfl (ma_cons me_var ma_nil)))) ma_nil)))) (me_frz (ml_lst (ma_cons (me_str _) (ma_cons (me_str _) ma_nil)))) (nomark _))))))))))))))))))))))
end
end Mi
end
section
set_option Elab.async false
set_option linter.all false
set_option maxRecDepth 100000
set_option maxHeartbeats 0
set_option autoImplicit false
namespace Mi
open PySem PySem.Spec PyProof.Rows L2
def fnL : List He.DefD := ([⟨("is_integer", none), "is_integer", "is_integer", defArgs (top 1), defBody (top 1), defScope (top 1), [], []⟩,
  ⟨("is_within", none), "is_within", "is_within", defArgs (top 2), defBody (top 2), defScope (top 2), [], []⟩,
  ⟨("is_one_of", none), "is_one_of", "is_one_of", defArgs (top 3), defBody (top 3), defScope (top 3), [], []⟩,
  ⟨("parts_in", none), "parts_in", "parts_in", defArgs (top 12), defBody (top 12), defScope (top 12), [], []⟩,
  ⟨("times_in", none), "times_in", "times_in", defArgs (top 13), defBody (top 13), defScope (top 13), [], []⟩,
  ⟨("all_once", none), "all_once", "all_once", defArgs (top 14), defBody (top 14), defScope (top 14), [], []⟩,
  ⟨("is_affine", none), "is_affine", "is_affine", defArgs (top 15), defBody (top 15), defScope (top 15), [], []⟩,
  ⟨("check_affine", none), "check_affine", "check_affine", defArgs (top 16), defBody (top 16), defScope (top 16), [], []⟩,
  ⟨("terms_with", none), "terms_with", "terms_with", defArgs (top 18), defBody (top 18), defScope (top 18), [], []⟩,
  ⟨("all_terms", none), "all_terms", "all_terms", defArgs (top 17), defBody (top 17), defScope (top 17), [], []⟩,
  ⟨("affine_text_in", none), "affine_text_in", "affine_text_in", defArgs (top 19), defBody (top 19), defScope (top 19), [], []⟩,
  ⟨("affine_text", none), "affine_text", "affine_text", defArgs (top 20), defBody (top 20), defScope (top 20), [], []⟩,
  ⟨("_law_hand", none), "_law_hand", "_law_hand", defArgs (top 22), defBody (top 22), defScope (top 22), [], []⟩,
  ⟨("_law_draw", none), "_law_draw", "_law_draw", defArgs (top 23), defBody (top 23), defScope (top 23), [], []⟩,
  ⟨("_law_some", none), "_law_some", "_law_some", defArgs (top 24), defBody (top 24), defScope (top 24), [], []⟩,
  ⟨("_law_term", none), "_law_term", "_law_term", defArgs (top 25), defBody (top 25), defScope (top 25), [], []⟩,
  ⟨("_law_parts", none), "_law_parts", "_law_parts", defArgs (top 27), defBody (top 27), defScope (top 27), [], []⟩,
  ⟨("_law_closed", none), "_law_closed", "_law_closed", defArgs (top 26), defBody (top 26), defScope (top 26), [], []⟩,
  ⟨("_law_every", none), "_law_every", "_law_every", defArgs (top 28), defBody (top 28), defScope (top 28), [], []⟩,
  ⟨("_law_text", none), "_law_text", "_law_text", defArgs (top 29), defBody (top 29), defScope (top 29), [], []⟩,
  ⟨("_law_word", none), "_law_word", "_law_word", defArgs (top 30), defBody (top 30), defScope (top 30), [], []⟩,
  ⟨("law", none), "law", "law", defArgs (top 31), defBody (top 31), defScope (top 31), [], []⟩] : List He.DefD)
def faL : List He.Fa := ([.glo "_law_closed",
  .glo "_law_draw",
  .glo "_law_every",
  .glo "_law_hand",
  .glo "_law_parts",
  .glo "_law_some",
  .glo "_law_term",
  .glo "_law_text",
  .glo "_law_word",
  .glo "affine_text",
  .glo "affine_text_in",
  .glo "all_once",
  .glo "all_terms",
  .glo "check_affine",
  .glo "is_affine",
  .glo "is_integer",
  .glo "is_one_of",
  .glo "is_within",
  .glo "law",
  .glo "parts_in",
  .glo "terms_with",
  .glo "times_in",
  .str "FUN" "fun",
  .int "MOST_PARTS" (60),
  .str "USE" "use"] : List He.Fa) ++ ([.free "ValueError",
  .free "abs",
  .free "all",
  .free "bool",
  .free "int",
  .free "isinstance",
  .free "len",
  .free "list",
  .free "range",
  .free "repr",
  .free "sorted",
  .free "str",
  .free "sum",
  .free "super",
  .free "tuple",
  .glo "NoAffine",
  .glo "NoNumber",
  .glo "NetError"] : List He.Fa)
def q_0 (K : PySem.W.Frag) : Bool := decide (ExcD.ok K PP.main.file ⟨"NoAffine", "NoAffine.__init__", defArgs (inClass (top 7) 0), defBody (inClass (top 7) 0), defScope (inClass (top 7) 0)⟩ = true)
def q_1 (K : PySem.W.Frag) : Bool := decide (ExcD.ok K PP.main.file ⟨"NoNumber", "NoNumber.__init__", defArgs (inClass (top 6) 0), defBody (inClass (top 6) 0), defScope (inClass (top 6) 0)⟩ = true)
def q_2 (K : PySem.W.Frag) : Bool := decide (excCB K (He.ga K "NoNumber") = true)
def q_3 (K : PySem.W.Frag) : Bool := decide (excCB K (He.ga K "NoAffine") = true)
def q_4 (K : PySem.W.Frag) : Bool := decide (PySem.W.exmOne K (.ref (He.ga K "NoNumber")) (.ref (He.ga K "NetError")) = some true)
def q_5 (K : PySem.W.Frag) : Bool := decide (PySem.W.exmOne K (.ref (He.ga K "NoAffine")) (.ref (He.ga K "NetError")) = some true)
def q_6 (K : PySem.W.Frag) : Bool := decide (PySem.W.kitOne K (.ref (He.ga K "NoNumber")) (.ref (He.ga K "NoNumber")) = some true)
def q_7 (K : PySem.W.Frag) : Bool := decide (PySem.W.kitOne K (.ref (He.ga K "NoAffine")) (.ref (He.ga K "NoNumber")) = some false)
def q_8 (K : PySem.W.Frag) : Bool := decide (PySem.W.kitOne K (.ref (He.ga K "NoNumber")) (.ref (He.ga K "NoAffine")) = some false)
def q_9 (K : PySem.W.Frag) : Bool := decide (PySem.W.kitOne K (.ref (He.ga K "NoAffine")) (.ref (He.ga K "NoAffine")) = some true)
def q_10 (K : PySem.W.Frag) : Bool := decide (PySem.W.kitOne K (.ref (He.ga K "NoNumber")) (.type "ValueError") = some true)
def q_11 (K : PySem.W.Frag) : Bool := decide (PySem.W.kitOne K (.ref (He.ga K "NoAffine")) (.type "ValueError") = some true)
def q_12 (K : PySem.W.Frag) : Bool := decide (PySem.W.kitAny K (.type "NoneType") [.type "int"] = some false)
def q_13 (K : PySem.W.Frag) : Bool := decide (PySem.W.kitAny K (.type "bool") [.type "int"] = some true)
def q_14 (K : PySem.W.Frag) : Bool := decide (PySem.W.kitAny K (.type "int") [.type "int"] = some true)
def q_15 (K : PySem.W.Frag) : Bool := decide (PySem.W.kitAny K (.type "str") [.type "int"] = some false)
def q_16 (K : PySem.W.Frag) : Bool := decide (PySem.W.kitAny K (.type "tuple") [.type "int"] = some false)
def q_17 (K : PySem.W.Frag) : Bool := decide (PySem.W.kitAny K (.type "list") [.type "int"] = some false)
def q_18 (K : PySem.W.Frag) : Bool := decide (PySem.W.kitAny K (.type "dict") [.type "int"] = some false)
def q_19 (K : PySem.W.Frag) : Bool := decide (PySem.W.kitAny K (.type "NoneType") [.type "bool"] = some false)
def q_20 (K : PySem.W.Frag) : Bool := decide (PySem.W.kitAny K (.type "bool") [.type "bool"] = some true)
def q_21 (K : PySem.W.Frag) : Bool := decide (PySem.W.kitAny K (.type "int") [.type "bool"] = some false)
def q_22 (K : PySem.W.Frag) : Bool := decide (PySem.W.kitAny K (.type "str") [.type "bool"] = some false)
def q_23 (K : PySem.W.Frag) : Bool := decide (PySem.W.kitAny K (.type "tuple") [.type "bool"] = some false)
def q_24 (K : PySem.W.Frag) : Bool := decide (PySem.W.kitAny K (.type "list") [.type "bool"] = some false)
def q_25 (K : PySem.W.Frag) : Bool := decide (PySem.W.kitAny K (.type "dict") [.type "bool"] = some false)
def q_26 (K : PySem.W.Frag) : Bool := decide (PySem.W.kitAny K (.type "NoneType") [.type "str"] = some false)
def q_27 (K : PySem.W.Frag) : Bool := decide (PySem.W.kitAny K (.type "bool") [.type "str"] = some false)
def q_28 (K : PySem.W.Frag) : Bool := decide (PySem.W.kitAny K (.type "int") [.type "str"] = some false)
def q_29 (K : PySem.W.Frag) : Bool := decide (PySem.W.kitAny K (.type "str") [.type "str"] = some true)
def q_30 (K : PySem.W.Frag) : Bool := decide (PySem.W.kitAny K (.type "tuple") [.type "str"] = some false)
def q_31 (K : PySem.W.Frag) : Bool := decide (PySem.W.kitAny K (.type "list") [.type "str"] = some false)
def q_32 (K : PySem.W.Frag) : Bool := decide (PySem.W.kitAny K (.type "dict") [.type "str"] = some false)
def q_33 (K : PySem.W.Frag) : Bool := decide (PySem.W.kitAny K (.type "NoneType") [.type "tuple"] = some false)
def q_34 (K : PySem.W.Frag) : Bool := decide (PySem.W.kitAny K (.type "bool") [.type "tuple"] = some false)
def q_35 (K : PySem.W.Frag) : Bool := decide (PySem.W.kitAny K (.type "int") [.type "tuple"] = some false)
def q_36 (K : PySem.W.Frag) : Bool := decide (PySem.W.kitAny K (.type "str") [.type "tuple"] = some false)
def q_37 (K : PySem.W.Frag) : Bool := decide (PySem.W.kitAny K (.type "tuple") [.type "tuple"] = some true)
def q_38 (K : PySem.W.Frag) : Bool := decide (PySem.W.kitAny K (.type "list") [.type "tuple"] = some false)
def q_39 (K : PySem.W.Frag) : Bool := decide (PySem.W.kitAny K (.type "dict") [.type "tuple"] = some false)
def cuL : List (PySem.W.Frag → Bool) := ([q_0,
  q_1,
  q_2,
  q_3,
  q_4,
  q_5,
  q_6,
  q_7,
  q_8,
  q_9,
  q_10,
  q_11,
  q_12,
  q_13,
  q_14,
  q_15,
  q_16,
  q_17,
  q_18,
  q_19,
  q_20,
  q_21,
  q_22,
  q_23,
  q_24] : List (PySem.W.Frag → Bool)) ++ ([q_25,
  q_26,
  q_27,
  q_28,
  q_29,
  q_30,
  q_31,
  q_32,
  q_33,
  q_34,
  q_35,
  q_36,
  q_37,
  q_38,
  q_39] : List (PySem.W.Frag → Bool))
def exL : List ExcD := ([⟨"NoAffine", "NoAffine.__init__", defArgs (inClass (top 7) 0), defBody (inClass (top 7) 0), defScope (inClass (top 7) 0)⟩,
  ⟨"NoNumber", "NoNumber.__init__", defArgs (inClass (top 6) 0), defBody (inClass (top 6) 0), defScope (inClass (top 6) 0)⟩] : List ExcD)
abbrev AlM : Type := Bool × List He.FnW × List FnC
def obsM (K : PySem.W.Frag) : AlM := ((faL.all fun f => f.ok K) && ((fnL.all fun d => d.ok K) && cuL.all fun q => q K), fnL.map (fun d => He.fnW K d.at_), exL.map fun d => fnC K d.x)
def valM : AlM := (true, fnL.map He.DefD.val, exL.map ExcD.val)
def SaysM (K : PySem.W.Frag) : Prop := obsM K = valM
def tfL : List He.Defn := [("law", none)]
def TabsM (K : PySem.W.Frag) (h : Heap) : Prop := ∀ p ∈ tfL, PySem.W.codeHdIn K (He.cT K p).1 (He.cT K p).2 = true ∧ K.lookup (He.cT K p).2 = none ∧ h.get? (He.cT K p).2 = some tabO
theorem tabs_of {as : List Addr} {h : Heap} (e : He.tabsB h.get? tfL (He.frT h.get? as) = true) : TabsM (He.frT h.get? as) h := fun p hp => by
  obtain ⟨h1, h2⟩ := He.ba (List.all_eq_true.mp e p hp)
  cases q : h.get? (He.cT (He.frT h.get? as) p).2 with
  | none => rw [q] at h2; cases h2
  | some o =>
    rw [q] at h2
    have z : He.emptyTab o = true := h2
    exact ⟨h1, He.frT_none q z, by rw [He.emptyTab_eq z]⟩
def obsMG (g : Addr → Option Obj) : AlM × Bool := (obsM (He.frT g (List.range 700)), He.tabsB g tfL (He.frT g (List.range 700)))
def hookM : PySem.W.Hook where
  α := AlM × Bool
  obs := fun s => obsMG s.heap.get?
  val := fun _ => (valM, true)
  says := fun _ h => ∃ K : PySem.W.Frag, K.In h ∧ SaysM K ∧ TabsM K h
  of := fun _ _ e => ⟨_, He.frT_in, congrArg Prod.fst e, tabs_of (congrArg Prod.snd e)⟩
  keeps := fun _ _ _ ⟨K, hK, c, t⟩ k => ⟨K, PySem.W.Frag.In.keeps hK k, c, fun p hp => ⟨(t p hp).1, (t p hp).2.1, k _ _ (t p hp).2.2⟩⟩
theorem obsMG_eq {g : Addr → Option Obj} {s : Shared} (h : ∀ a, g a = s.heap.get? a) : obsMG g = hookM.obs s := by
  have e : g = s.heap.get? := funext h
  rw [e] <;> rfl
section
variable {K : PySem.W.Frag}
theorem SaysM.p (c : SaysM K) : (faL.all fun f => f.ok K) = true ∧ (fnL.all fun d => d.ok K) = true ∧ (cuL.all fun q => q K) = true := by
  have c1 : ((faL.all fun f => f.ok K) && ((fnL.all fun d => d.ok K) && cuL.all fun q => q K)) = true := congrArg (fun z : AlM => z.1) c
  obtain ⟨a, b⟩ := He.ba c1
  exact ⟨a, He.ba b⟩
theorem SaysM.fa (c : SaysM K) (i : Nat) {f : He.Fa} (h : faL[i]? = some f) : f.ok K = true := List.all_eq_true.mp c.p.1 f (List.mem_of_getElem? h)
theorem SaysM.cu (c : SaysM K) (i : Nat) {q : PySem.W.Frag → Bool} (h : cuL[i]? = some q) : q K = true := List.all_eq_true.mp c.p.2.2 q (List.mem_of_getElem? h)
theorem SaysM.exc (c : SaysM K) (i : Nat) {d : ExcD} (h : exL[i]? = some d) : fnC K d.x = d.val := by
  have e : (exL.map fun d => fnC K d.x) = exL.map ExcD.val := congrArg (fun z : AlM => z.2.2) c
  have e2 : (exL.map fun d => fnC K d.x)[i]? = (exL.map ExcD.val)[i]? := by rw [e]
  rw [List.getElem?_map, List.getElem?_map, h] at e2
  exact Option.some.inj e2
theorem SaysM.def_ (c : SaysM K) (i : Nat) {d : He.DefD} (h : fnL[i]? = some d) : ∃ fd, FunD K d.name d.qual d.params d.body d.scope (d.dvs K) (d.kws K) (He.fAd K d.at_) fd := by
  have e : fnL.map (fun d => He.fnW K d.at_) = fnL.map He.DefD.val := congrArg (fun z : AlM => z.2.1) c
  have e2 : (fnL.map fun d => He.fnW K d.at_)[i]? = (fnL.map He.DefD.val)[i]? := by rw [e]
  rw [List.getElem?_map, List.getElem?_map, h] at e2
  exact He.DefD.funD (Option.some.inj e2) (List.all_eq_true.mp c.p.2.1 d (List.mem_of_getElem? h))
end
theorem al_of {K : PySem.W.Frag} {h : Heap} {mg : PySem.Str → Option Value} (X : K.In h) (G : h.Ns mainGlobals mg) (c : SaysM K) : Al K mg where
  d_is_integer := c.def_ 0 rfl
  d_is_within := c.def_ 1 rfl
  d_is_one_of := c.def_ 2 rfl
  d_parts_in := c.def_ 3 rfl
  d_times_in := c.def_ 4 rfl
  d_all_once := c.def_ 5 rfl
  d_is_affine := c.def_ 6 rfl
  d_check_affine := c.def_ 7 rfl
  d_terms_with := c.def_ 8 rfl
  d_all_terms := c.def_ 9 rfl
  d_affine_text_in := c.def_ 10 rfl
  d_affine_text := c.def_ 11 rfl
  d__law_hand := c.def_ 12 rfl
  d__law_draw := c.def_ 13 rfl
  d__law_some := c.def_ 14 rfl
  d__law_term := c.def_ 15 rfl
  d__law_parts := c.def_ 16 rfl
  d__law_closed := c.def_ 17 rfl
  d__law_every := c.def_ 18 rfl
  d__law_text := c.def_ 19 rfl
  d__law_word := c.def_ 20 rfl
  d_law := c.def_ 21 rfl
  g__law_closed := He.glo_ok X G (c.fa 0 (f := .glo "_law_closed") rfl)
  g__law_draw := He.glo_ok X G (c.fa 1 (f := .glo "_law_draw") rfl)
  g__law_every := He.glo_ok X G (c.fa 2 (f := .glo "_law_every") rfl)
  g__law_hand := He.glo_ok X G (c.fa 3 (f := .glo "_law_hand") rfl)
  g__law_parts := He.glo_ok X G (c.fa 4 (f := .glo "_law_parts") rfl)
  g__law_some := He.glo_ok X G (c.fa 5 (f := .glo "_law_some") rfl)
  g__law_term := He.glo_ok X G (c.fa 6 (f := .glo "_law_term") rfl)
  g__law_text := He.glo_ok X G (c.fa 7 (f := .glo "_law_text") rfl)
  g__law_word := He.glo_ok X G (c.fa 8 (f := .glo "_law_word") rfl)
  g_affine_text := He.glo_ok X G (c.fa 9 (f := .glo "affine_text") rfl)
  g_affine_text_in := He.glo_ok X G (c.fa 10 (f := .glo "affine_text_in") rfl)
  g_all_once := He.glo_ok X G (c.fa 11 (f := .glo "all_once") rfl)
  g_all_terms := He.glo_ok X G (c.fa 12 (f := .glo "all_terms") rfl)
  g_check_affine := He.glo_ok X G (c.fa 13 (f := .glo "check_affine") rfl)
  g_is_affine := He.glo_ok X G (c.fa 14 (f := .glo "is_affine") rfl)
  g_is_integer := He.glo_ok X G (c.fa 15 (f := .glo "is_integer") rfl)
  g_is_one_of := He.glo_ok X G (c.fa 16 (f := .glo "is_one_of") rfl)
  g_is_within := He.glo_ok X G (c.fa 17 (f := .glo "is_within") rfl)
  g_law := He.glo_ok X G (c.fa 18 (f := .glo "law") rfl)
  g_parts_in := He.glo_ok X G (c.fa 19 (f := .glo "parts_in") rfl)
  g_terms_with := He.glo_ok X G (c.fa 20 (f := .glo "terms_with") rfl)
  g_times_in := He.glo_ok X G (c.fa 21 (f := .glo "times_in") rfl)
  s_FUN := He.str_ok X G (c.fa 22 (f := .str "FUN" "fun") rfl)
  i_MOST_PARTS := He.int_ok X G (c.fa 23 (f := .int "MOST_PARTS" (60)) rfl)
  s_USE := He.str_ok X G (c.fa 24 (f := .str "USE" "use") rfl)
  b_ValueError := He.free_ok X G (c.fa 25 (f := .free "ValueError") rfl)
  b_abs := He.free_ok X G (c.fa 26 (f := .free "abs") rfl)
  b_all := He.free_ok X G (c.fa 27 (f := .free "all") rfl)
  b_bool := He.free_ok X G (c.fa 28 (f := .free "bool") rfl)
  b_int := He.free_ok X G (c.fa 29 (f := .free "int") rfl)
  b_isinstance := He.free_ok X G (c.fa 30 (f := .free "isinstance") rfl)
  b_len := He.free_ok X G (c.fa 31 (f := .free "len") rfl)
  b_list := He.free_ok X G (c.fa 32 (f := .free "list") rfl)
  b_range := He.free_ok X G (c.fa 33 (f := .free "range") rfl)
  b_repr := He.free_ok X G (c.fa 34 (f := .free "repr") rfl)
  b_sorted := He.free_ok X G (c.fa 35 (f := .free "sorted") rfl)
  b_str := He.free_ok X G (c.fa 36 (f := .free "str") rfl)
  b_sum := He.free_ok X G (c.fa 37 (f := .free "sum") rfl)
  b_super := He.free_ok X G (c.fa 38 (f := .free "super") rfl)
  b_tuple := He.free_ok X G (c.fa 39 (f := .free "tuple") rfl)
  gx_NoAffine := He.glo_ok X G (c.fa 40 (f := .glo "NoAffine") rfl)
  gx_NoNumber := He.glo_ok X G (c.fa 41 (f := .glo "NoNumber") rfl)
  gx_NetError := He.glo_ok X G (c.fa 42 (f := .glo "NetError") rfl)
  sup_NoAffine := supC_of (d := ⟨"NoAffine", "NoAffine.__init__", defArgs (inClass (top 7) 0), defBody (inClass (top 7) 0), defScope (inClass (top 7) 0)⟩) (c.exc 0 rfl) (of_decide_eq_true (c.cu 0 (q := q_0) rfl)) (by decide +kernel) rfl rfl (fun _ _ _ _ _ _ _ us hl => match us, hl with | [_], _ => rfl) (by decide +kernel) rfl rfl rfl (by decide +kernel) (by decide +kernel) (by decide +kernel) (by decide +kernel)
  sup_NoNumber := supC_of (d := ⟨"NoNumber", "NoNumber.__init__", defArgs (inClass (top 6) 0), defBody (inClass (top 6) 0), defScope (inClass (top 6) 0)⟩) (c.exc 1 rfl) (of_decide_eq_true (c.cu 1 (q := q_1) rfl)) (by decide +kernel) rfl rfl (fun _ _ _ _ _ _ _ us hl => match us, hl with | [_], _ => rfl) (by decide +kernel) rfl rfl rfl (by decide +kernel) (by decide +kernel) (by decide +kernel) (by decide +kernel)
  ec_NoNumber := excCB_ok (of_decide_eq_true (c.cu 2 (q := q_2) rfl))
  ec_NoAffine := excCB_ok (of_decide_eq_true (c.cu 3 (q := q_3) rfl))
  cx_NetError_NoNumber := of_decide_eq_true (c.cu 4 (q := q_4) rfl)
  cx_NetError_NoAffine := of_decide_eq_true (c.cu 5 (q := q_5) rfl)
  kx_NoNumber_NoNumber := of_decide_eq_true (c.cu 6 (q := q_6) rfl)
  kx_NoNumber_NoAffine := of_decide_eq_true (c.cu 7 (q := q_7) rfl)
  kx_NoAffine_NoNumber := of_decide_eq_true (c.cu 8 (q := q_8) rfl)
  kx_NoAffine_NoAffine := of_decide_eq_true (c.cu 9 (q := q_9) rfl)
  kx_ValueError_NoNumber := of_decide_eq_true (c.cu 10 (q := q_10) rfl)
  kx_ValueError_NoAffine := of_decide_eq_true (c.cu 11 (q := q_11) rfl)
  k0_NoneType := of_decide_eq_true (c.cu 12 (q := q_12) rfl)
  k0_bool := of_decide_eq_true (c.cu 13 (q := q_13) rfl)
  k0_int := of_decide_eq_true (c.cu 14 (q := q_14) rfl)
  k0_str := of_decide_eq_true (c.cu 15 (q := q_15) rfl)
  k0_tuple := of_decide_eq_true (c.cu 16 (q := q_16) rfl)
  k0_list := of_decide_eq_true (c.cu 17 (q := q_17) rfl)
  k0_dict := of_decide_eq_true (c.cu 18 (q := q_18) rfl)
  k1_NoneType := of_decide_eq_true (c.cu 19 (q := q_19) rfl)
  k1_bool := of_decide_eq_true (c.cu 20 (q := q_20) rfl)
  k1_int := of_decide_eq_true (c.cu 21 (q := q_21) rfl)
  k1_str := of_decide_eq_true (c.cu 22 (q := q_22) rfl)
  k1_tuple := of_decide_eq_true (c.cu 23 (q := q_23) rfl)
  k1_list := of_decide_eq_true (c.cu 24 (q := q_24) rfl)
  k1_dict := of_decide_eq_true (c.cu 25 (q := q_25) rfl)
  k2_NoneType := of_decide_eq_true (c.cu 26 (q := q_26) rfl)
  k2_bool := of_decide_eq_true (c.cu 27 (q := q_27) rfl)
  k2_int := of_decide_eq_true (c.cu 28 (q := q_28) rfl)
  k2_str := of_decide_eq_true (c.cu 29 (q := q_29) rfl)
  k2_tuple := of_decide_eq_true (c.cu 30 (q := q_30) rfl)
  k2_list := of_decide_eq_true (c.cu 31 (q := q_31) rfl)
  k2_dict := of_decide_eq_true (c.cu 32 (q := q_32) rfl)
  k3_NoneType := of_decide_eq_true (c.cu 33 (q := q_33) rfl)
  k3_bool := of_decide_eq_true (c.cu 34 (q := q_34) rfl)
  k3_int := of_decide_eq_true (c.cu 35 (q := q_35) rfl)
  k3_str := of_decide_eq_true (c.cu 36 (q := q_36) rfl)
  k3_tuple := of_decide_eq_true (c.cu 37 (q := q_37) rfl)
  k3_list := of_decide_eq_true (c.cu 38 (q := q_38) rfl)
  k3_dict := of_decide_eq_true (c.cu 39 (q := q_39) rfl)
def looseL : List PySem.Str := (["is_integer",
  "is_within",
  "is_one_of",
  "NetError",
  "NoNumber",
  "NoAffine",
  "parts_in",
  "times_in",
  "all_once",
  "is_affine",
  "check_affine",
  "all_terms",
  "terms_with",
  "affine_text_in",
  "affine_text",
  "_law_hand",
  "_law_draw",
  "_law_some",
  "_law_term",
  "_law_closed",
  "_law_parts",
  "_law_every",
  "_law_text",
  "_law_word",
  "FUN"] : List PySem.Str) ++ (["USE",
  "MOST_PARTS"] : List PySem.Str)
def obM (s : PySem.W.SharedT) : AlM × Bool := obsMG (HandSHeadRun.getT s)
theorem obM_eq (s : PySem.W.SharedT) : obM s = hookM.obs s.abs := obsMG_eq (HandSHeadRun.getT_eq s)
theorem runM (w : World) : HandSHeadRun.RunEq (PySem.W.OpenLaw.row PySem.Challenge.rw_pairhouses_k52_whole_all_terms_and_their) (PySem.W.view (PySem.W.OpenLaw.row PySem.Challenge.rw_pairhouses_k52_whole_all_terms_and_their).prog [31]) hookM obM 20000 looseL w := by
  intro os
  kernel_rfl
/-- what is left: the mirror tells True at every script -/
def Due : Prop := ∀ ns : List Int, ns.length ≤ 63 → ∃ st, m_law [.scr (ns.map .int)] [] = .ok (.bl true) st
theorem reps_ints {T : Ts} {W : Wd} {st : Sto} {H : Hp} : ∀ ns : List Int, Reps T W st H (ns.map .int) (ns.map V.int)
  | [] => .nil
  | n :: ns => .cons (.int n) (reps_ints ns)
theorem law_sp (due : Due) {K : PySem.W.Frag} (H : Hp) (a : Addr) (ns : List Int) (hl : ns.length ≤ 63) (ht : LamX.Tabs (TT K).tb H) (hs : ScrAt ⟨[], []⟩ [] K H a (ns.map V.int)) : spM (TT K) 1 m_law [.ref a] H (fun v _ => v = .bl true) fun _ _ _ => False := by
  obtain ⟨st, e⟩ := due ns hl
  refine ⟨rfl, ⟨[], []⟩, [], [.scr (ns.map .int)], ⟨rfl, fun l c a e1 _ => by simp at e1, fun l l' a c c' _ _ e3 => by simp at e3, fun a ⟨i, c, e1, e2, n⟩ => by simp at e2, fun a h => by simp at h, ht⟩, .cons (.scr hs (reps_ints ns)) .nil, ?_⟩
  rw [e]
  intro W' H' v g A' r
  cases r
  rfl
end Mi
open PySem PySem.W PySem.Calls PyProof.Rows
theorem law_holds (due : Mi.Due) : PySem.Challenge.rw_pairhouses_k52_whole_all_terms_and_their.Holds := by
  w_on; o_law
  refine HandSHeadRun.head_any (r := OpenLaw.row PySem.Challenge.rw_pairhouses_k52_whole_all_terms_and_their) (q := view (OpenLaw.row PySem.Challenge.rw_pairhouses_k52_whole_all_terms_and_their).prog [31]) (H := Mi.hookM) (ob := Mi.obM) (M := 20000) (loose := Mi.looseL) (d := HandSHeadRun.topDef (OpenLaw.row PySem.Challenge.rw_pairhouses_k52_whole_all_terms_and_their).prog 31) (kwd := []) Mi.obM_eq
    (by kernel_rfl) (fun s => by kernel_rfl) Mi.runM (by kernel_rfl) (by kernel_rfl) (by kernel_rfl) (by rfl) (by first | assumption | decide +kernel) (by decide +kernel) ⟨rfl, rfl, rfl, rfl, rfl, by decide +kernel⟩ ?hw ?hc
  case hw => w_witness2
  case hc =>
    refine Mi.walk_G (l := PySem.Challenge.rw_pairhouses_k52_whole_all_terms_and_their) (n := 63) (k := 69) (x := "script") rfl (by decide) (by kernel_rfl) ⟨⟨rfl, by decide, by decide⟩, rfl⟩ ?F
    intro w mg fa h Y G hmg0
    obtain ⟨K, KX, c, tm⟩ := Y
    have hmg : mg ("law" : PySem.Str) = some (.ref fa) := by
      have e : (HandSHeadRun.topDef (OpenLaw.row PySem.Challenge.rw_pairhouses_k52_whole_all_terms_and_their).prog 31).name = ("law" : PySem.Str) := by kernel_rfl
      rw [← e]
      exact hmg0
    have A := Mi.al_of KX G c
    have e := hmg.symm.trans A.g_law
    cases e
    obtain ⟨fd, F⟩ := A.d_law
    refine ⟨K, fd, Mi.tfL.map (He.cT K), Mi.spM (Mi.TT K) 1 Mi.m_law, KX, (fun p hp => by
      obtain ⟨q, hq, rfl⟩ := List.mem_map.mp hp
      exact (tm q hq).2.2), (fun p hp => by
      obtain ⟨q, hq, rfl⟩ := List.mem_map.mp hp
      exact (tm q hq).2.1), (fun p hp => by
      obtain ⟨q, hq, rfl⟩ := List.mem_map.mp hp
      exact PySem.W.codeHd_of_K KX (tm q hq).1), fun s v => L2.FunD.bindsA (ps := ["script"]) F (fun _ _ _ _ _ _ us hl => match us, hl with | [_], _ => rfl) s [v] rfl, fun H a ns hl ht hs => Mi.law_sp due H a ns hl (fun p hp => by
      simp only [Mi.TT, List.mem_cons, List.not_mem_nil, or_false] at hp
      rcases hp with rfl
      · exact LamX.TabS.nil (ht _ (List.mem_map_of_mem (a := (("law", none) : He.Defn)) (by simp [Mi.tfL])))) hs, fun base KB nb TB => ?_⟩
    exact Mi.w_lawF A (TB _ (List.mem_map_of_mem (a := (("law", none) : He.Defn)) (by simp [Mi.tfL]))) F
end
section
set_option linter.all false
set_option autoImplicit false
set_option maxRecDepth 100000
namespace Mi
mutual
def D.fx : D → Bool
  | .tup xs => fxL xs
  | .lst xs => fxL xs
  | .dct kvs => fxK kvs
  | .ins _ fs => fxF fs
  | .loc _ => false
  | .scr _ => false
  | .exn => false
  | _ => true
def fxL : List D → Bool
  | [] => true
  | x :: xs => x.fx && fxL xs
def fxK : List (D × D) → Bool
  | [] => true
  | (k, v) :: xs => k.fx && k.isKey && v.fx && fxK xs
def fxF : List (Nat × D) → Bool
  | [] => true
  | (_, v) :: xs => v.fx && fxF xs
end
mutual
theorem fx_pure : ∀ d : D, d.fx = true → d.pure = true
  | .tup xs, h => fxL_pure xs h
  | .lst xs, h => fxL_pure xs h
  | .dct kvs, h => fxK_pure kvs h
  | .ins c fs, h => fxF_pure fs h
  | .loc l, h => by simp [D.fx] at h
  | .non, h => rfl
  | .bl _, h => rfl
  | .int _, h => rfl
  | .str _, h => rfl
  | .scr _, h => by simp [D.fx] at h
  | .exn, h => by simp [D.fx] at h
theorem fxL_pure : ∀ ds : List D, fxL ds = true → pureL ds = true
  | [], h => rfl
  | x :: xs, h => by
    simp only [fxL, Bool.and_eq_true] at h
    simp only [pureL, fx_pure x h.1, fxL_pure xs h.2, Bool.and_self]
theorem fxK_pure : ∀ ds : List (D × D), fxK ds = true → pureK ds = true
  | [], h => rfl
  | (k, v) :: xs, h => by
    simp only [fxK, Bool.and_eq_true] at h
    simp only [pureK, fx_pure k h.1.1.1, fx_pure v h.1.2, fxK_pure xs h.2, Bool.and_self]
theorem fxF_pure : ∀ ds : List (Nat × D), fxF ds = true → pureF ds = true
  | [], h => rfl
  | (k, v) :: xs, h => by
    simp only [fxF, Bool.and_eq_true] at h
    simp only [pureF, fx_pure v h.1, fxF_pure xs h.2, Bool.and_self]
end
section
variable {f : Nat → Sto → Option (D × Sto)}
mutual
theorem trD_fx : ∀ (d : D) (st : Sto), d.fx = true → trD f st d = some (d, st)
  | .tup xs, st, h => by simp only [trD, trL_fx xs st h, Option.map_some]
  | .lst xs, st, h => by simp only [trD, trL_fx xs st h, Option.map_some]
  | .dct kvs, st, h => by simp only [trD, trK_fx kvs st h, Option.map_some]
  | .ins c fs, st, h => by simp only [trD, trF_fx fs st h, Option.map_some]
  | .loc l, st, h => by simp [D.fx] at h
  | .non, st, h => rfl
  | .bl _, st, h => rfl
  | .int _, st, h => rfl
  | .str _, st, h => rfl
  | .scr _, st, h => by simp [D.fx] at h
  | .exn, st, h => by simp [D.fx] at h
theorem trL_fx : ∀ (ds : List D) (st : Sto), fxL ds = true → trL f st ds = some (ds, st)
  | [], st, h => rfl
  | x :: xs, st, h => by
    simp only [fxL, Bool.and_eq_true] at h
    simp only [trL, trD_fx x st h.1, trL_fx xs st h.2, Option.map_some]
theorem trK_fx : ∀ (ds : List (D × D)) (st : Sto), fxK ds = true → trK f st ds = some (ds, st)
  | [], st, h => rfl
  | (k, x) :: xs, st, h => by
    simp only [fxK, Bool.and_eq_true] at h
    simp only [trK, trD_fx x st h.1.2, h.1.1.2, if_true, trK_fx xs st h.2, Option.map_some]
theorem trF_fx : ∀ (ds : List (Nat × D)) (st : Sto), fxF ds = true → trF f st ds = some (ds, st)
  | [], st, h => rfl
  | (k, x) :: xs, st, h => by
    simp only [fxF, Bool.and_eq_true] at h
    simp only [trF, trD_fx x st h.1, trF_fx xs st h.2, Option.map_some]
end
end
theorem fz_fx {d : D} {st : Sto} (h : d.fx = true) : fz st d = some (d, st) := trD_fx d st h
theorem runP_fz {g : Fn} {ds : List D} {st s s' : Sto} {d d' : D} (h : g ds [] = .ok d s) (hf : fz s d = some (d', s')) (hp : d'.pure = true) : runP g ds st = .ok d' st := by
  unfold runP
  rw [h]
  simp only [hf, hp, if_true]
theorem runP_ok {g : Fn} {ds : List D} {st s : Sto} {d : D} (h : g ds [] = .ok d s) (hp : d.fx = true) : runP g ds st = .ok d st := runP_fz h (fz_fx hp) (fx_pure d hp)
theorem xCallP_ok {np : Nat} {g : Fn} {ma : XA} {σ : Env} {st st1 : Sto} {ds : List D} {d : D} (ha : ma σ st = .ok ds st1) (hl : ds.length = np) (hp : fxL ds = true) (h : runP g ds st1 = .ok d st1) : xCallP np g ma σ st = .ok d st1 := by
  unfold xCallP
  rw [ha]
  simp only [Out.bind_ok, hl, fxL_pure ds hp, and_self, if_true, h]
theorem compL_ok {it : It} {g : XG} {t : XT} {e : XE} {σ : Env} {st : Sto} (p : D → Bool) (F : D → D) (hit : it.g = none) : ∀ (ds acc : List D), (∀ d ∈ ds, ∃ σ1, g d σ st = some (σ1, st) ∧ t σ1 st = .ok (p d) st ∧ (p d = true → e σ1 st = .ok (F d) st)) → acc.length + ds.length ≤ szL →
    compL it g t e σ ds st acc = .ok (acc ++ (ds.filter p).map F) st
  | [], acc, h, hl => by simp [compL, It.okAt, hit]
  | d :: r, acc, h, hl => by
    obtain ⟨σ1, h1, h2, h3⟩ := h d (List.mem_cons_self)
    have hok : it.okAt st = true := by simp [It.okAt, hit]
    simp only [List.length_cons] at hl
    simp only [compL, hok, if_true, h1, h2]
    cases hp : p d with
    | false =>
      simp only
      rw [compL_ok p F hit r acc (fun x hx => h x (List.mem_cons_of_mem _ hx)) (by omega)]
      simp [hp]
    | true =>
      simp only [h3 hp]
      have hlt : acc.length < szL := by omega
      simp only [hlt, if_true]
      rw [compL_ok p F hit r (acc ++ [F d]) (fun x hx => h x (List.mem_cons_of_mem _ hx)) (by simp; omega)]
      simp [hp]
theorem xComp_map {own : List Nat} {i : XI} {g : XG} {e : XE} {σ : Env} {st : Sto} {ds : List D} (F : D → D) (hi : i σ st = .ok ⟨ds, none⟩ st) (h : ∀ d ∈ ds, ∃ σ1, g d (wipeV σ own) st = some (σ1, st) ∧ e σ1 st = .ok (F d) st) (hl : ds.length ≤ szL) :
    xComp own i g tTrue e σ st = .ok (ds.map F) st := by
  unfold xComp
  rw [hi]
  simp only [Out.bind_ok]
  rw [compL_ok (fun _ => true) F rfl ds [] (fun d hd => by obtain ⟨σ1, h1, h2⟩ := h d hd; exact ⟨σ1, h1, rfl, fun _ => h2⟩) (by simpa using hl), List.filter_eq_self.mpr (fun _ _ => rfl)]
  simp
theorem xComp_filter {own : List Nat} {i : XI} {g : XG} {t : XT} {e : XE} {σ : Env} {st : Sto} {ds : List D} (p : D → Bool) (F : D → D) (hi : i σ st = .ok ⟨ds, none⟩ st) (h : ∀ d ∈ ds, ∃ σ1, g d (wipeV σ own) st = some (σ1, st) ∧ t σ1 st = .ok (p d) st ∧ (p d = true → e σ1 st = .ok (F d) st)) (hl : ds.length ≤ szL) :
    xComp own i g t e σ st = .ok ((ds.filter p).map F) st := by
  unfold xComp
  rw [hi]
  simp only [Out.bind_ok]
  rw [compL_ok p F rfl ds [] h (by simpa using hl)]
  simp
theorem blsOf_map (f : D → Bool) : ∀ ds : List D, blsOf (ds.map fun d => .bl (f d)) = some (ds.map f)
  | [] => rfl
  | d :: r => by simp [blsOf, blsOf_map f r]
theorem vAll_map (f : D → Bool) (ds : List D) (st : Sto) : vAll st [.lst (ds.map fun d => .bl (f d))] = some (.bl (ds.all f)) := by
  have : ((lstOf st (.lst (ds.map fun d => D.bl (f d)))).bind blsOf) = some (ds.map f) := blsOf_map f ds
  simp only [vAll, this, Option.map_some, List.all_map]
  rfl
end Mi
end
section
set_option linter.all false
set_option autoImplicit false
set_option maxRecDepth 100000
namespace Mi
def handC (cs : List Int) (i c s k : Int) : Cell := .lst [.lst (cs.map .int), .int i, .int c, .int s, .int k]
/-- the hand, the first cell -/
def HandOk (hd : Cell) : Prop := ∃ cs i c s k, 0 ≤ i ∧ hd = handC cs i c s k
theorem vEq_int (st : Sto) (a b : Int) : vEq st (.int a) (.int b) = some (.bl (decide (a = b))) := rfl
theorem vLt_int (st : Sto) (a b : Int) : vLt st (.int a) (.int b) = some (.bl (decide (a < b))) := rfl
theorem vGt_int (st : Sto) (a b : Int) : vGt st (.int a) (.int b) = some (.bl (decide (b < a))) := rfl
theorem vGe_int (st : Sto) (a b : Int) : vGe st (.int a) (.int b) = some (.bl (decide (b ≤ a))) := rfl
theorem vAdd_int (st : Sto) (a b : Int) : vAdd st (.int a) (.int b) = some (.int (a + b)) := rfl
theorem vSub_int (st : Sto) (a b : Int) : vSub st (.int a) (.int b) = some (.int (a - b)) := rfl
theorem vInt_int (st : Sto) (a : Int) : vInt st [.int a] = some (.int a) := rfl
theorem vMul_r (st : Sto) (a b : Int) (h : -big < b ∧ b < big) : vMul st (.int a) (.int b) = some (.int (a * b)) := by
  simp only [vMul, h, and_self, or_true, if_true]
theorem vMul_l (st : Sto) (a b : Int) (h : -big < a ∧ a < big) : vMul st (.int a) (.int b) = some (.int (a * b)) := by
  simp only [vMul, h, and_self, true_or, if_true]
theorem vMod_int (st : Sto) (a b : Int) (h : 0 < b) : vMod st (.int a) (.int b) = some (.int (a % b)) := by simp only [vMod, h, if_true]
theorem vDiv_int (st : Sto) (a b : Int) (h : 0 < b ∧ b < 1073741824) : vDiv st (.int a) (.int b) = some (.int (a / b)) := by simp only [vDiv, h, and_self, if_true]
section
variable {cs : List Int} {i c s k : Int} {rest : Sto}
theorem hx0 : vIx (handC cs i c s k :: rest) (.loc 0) (.int 0) = some (.lst (cs.map .int)) := rfl
theorem hx1 : vIx (handC cs i c s k :: rest) (.loc 0) (.int 1) = some (.int i) := rfl
theorem hx2 : vIx (handC cs i c s k :: rest) (.loc 0) (.int 2) = some (.int c) := rfl
theorem hx3 : vIx (handC cs i c s k :: rest) (.loc 0) (.int 3) = some (.int s) := rfl
theorem hx4 : vIx (handC cs i c s k :: rest) (.loc 0) (.int 4) = some (.int k) := rfl
theorem hl0 : vLen (handC cs i c s k :: rest) [.lst (cs.map .int)] = some (.int cs.length) := by
  show some (D.int ((cs.map D.int).length : Nat)) = _
  rw [List.length_map]
variable {d v1 v2 v3 : Option D}
theorem hp1 (x : Int) : gSub (xVar 0) (xC (.int 1)) (.int x) [some (.loc 0), d, v1, v2, v3] (handC cs i c s k :: rest) = some ([some (.loc 0), d, v1, v2, v3], handC cs x c s k :: rest) := rfl
theorem hp2 (x : Int) : gSub (xVar 0) (xC (.int 2)) (.int x) [some (.loc 0), d, v1, v2, v3] (handC cs i c s k :: rest) = some ([some (.loc 0), d, v1, v2, v3], handC cs i x s k :: rest) := rfl
theorem hp3 (x : Int) : gSub (xVar 0) (xC (.int 3)) (.int x) [some (.loc 0), d, v1, v2, v3] (handC cs i c s k :: rest) = some ([some (.loc 0), d, v1, v2, v3], handC cs i c x k :: rest) := rfl
theorem hp4 (x : Int) : gSub (xVar 0) (xC (.int 4)) (.int x) [some (.loc 0), d, v1, v2, v3] (handC cs i c s k :: rest) = some ([some (.loc 0), d, v1, v2, v3], handC cs i c s x :: rest) := rfl
theorem ix_cells (st : Sto) (h0 : 0 ≤ i) (h1 : i < cs.length) : vIx st (.lst (cs.map .int)) (.int i) = some (.int (cs.getD i.toNat 0)) := by
  have h2 : i.toNat < cs.length := by omega
  show atI (cs.map D.int) i = _
  unfold atI ixN
  rw [if_pos h0, List.length_map, if_pos h1]
  simp [h2]
end
theorem small_mod (a : Int) {m : Int} (h : 0 < m) (hb : m ≤ 4294967296) : -big < a % m ∧ a % m < big := by
  have h1 := Int.emod_nonneg a (Int.ne_of_gt h)
  have h2 := Int.emod_lt_of_pos a h
  unfold big
  omega
theorem ten18 (st : Sto) : vPow st (.int 10) (.int 18) = some (.int 1000000000000000000) := rfl
def numC0 (s k : Int) : Int := (s + 7877 * (k + 1)) * 69621 % 2147483647
def numC1 (v : Int) : Int := v * (v / 1103 + 40692) % 2147483399
def numC2 (v : Int) : Int := v * (v / 2311 + 48271) % 2147483629
/-- the second half: all conditions decided -/
theorem draw_num {cs : List Int} {i c s k : Int} {rest : Sto} {m : Int} (hm : 0 < m) (hm2 : m < 1073741824) (hc1 : 0 < c ∨ c = 0 ∧ ¬ i < cs.length ∨ c < 0) :
    ∃ r hd', m__law_draw [.loc 0, .int m] (handC cs i c s k :: rest) = .ok (.int (r % m)) (hd' :: rest) ∧ ∃ c' k', hd' = handC cs i c' s k' := by
  have z : ∀ a : Int, vMul (handC cs i c s (k + 1) :: rest) (.int a) (.int 69621) = some (.int (a * 69621)) := fun a => vMul_r _ _ _ (by decide)
  have z0 : ∀ a : Int, vMul (handC cs i c s (k + 1) :: rest) (.int 7877) (.int a) = some (.int (7877 * a)) := fun a => vMul_l _ _ _ (by decide)
  have z1 : ∀ (a b : Int), vMul (handC cs i c s (k + 1) :: rest) (.int (a % 2147483647)) (.int b) = some (.int (a % 2147483647 * b)) := fun a b => vMul_l _ _ _ (small_mod a (by decide) (by decide))
  have y1 : ∀ a : Int, vMod (handC cs i c s (k + 1) :: rest) (.int a) (.int 2147483647) = some (.int (a % 2147483647)) := fun a => vMod_int _ _ _ (by decide)
  have y2 : ∀ a : Int, vMod (handC cs i c s (k + 1) :: rest) (.int a) (.int 2147483399) = some (.int (a % 2147483399)) := fun a => vMod_int _ _ _ (by decide)
  have y5 : ∀ a : Int, vMod (handC cs i c s (k + 1) :: rest) (.int a) (.int 2147483629) = some (.int (a % 2147483629)) := fun a => vMod_int _ _ _ (by decide)
  have z2 : ∀ (a b : Int), vMul (handC cs i c s (k + 1) :: rest) (.int (a % 2147483399)) (.int b) = some (.int (a % 2147483399 * b)) := fun a b => vMul_l _ _ _ (small_mod a (by decide) (by decide))
  have y3 : ∀ a : Int, vMod (handC cs i c s (k + 1) :: rest) (.int a) (.int m) = some (.int (a % m)) := fun a => vMod_int _ _ _ hm
  have y4 : ∀ a : Int, vMod (handC cs i c s k :: rest) (.int a) (.int m) = some (.int (a % m)) := fun a => vMod_int _ _ _ hm
  have w1 : ∀ a : Int, vDiv (handC cs i c s (k + 1) :: rest) (.int a) (.int 1103) = some (.int (a / 1103)) := fun a => vDiv_int _ _ _ (by decide)
  have w2 : ∀ a : Int, vDiv (handC cs i c s (k + 1) :: rest) (.int a) (.int 2311) = some (.int (a / 2311)) := fun a => vDiv_int _ _ _ (by decide)
  have w3 : ∀ a : Int, vDiv (handC cs i c s (k + 1) :: rest) (.int a) (.int 16) = some (.int (a / 16)) := fun a => vDiv_int _ _ _ (by decide)
  have w4 : ∀ a : Int, vDiv (handC cs i c s k :: rest) (.int a) (.int m) = some (.int (a / m)) := fun a => vDiv_int _ _ _ ⟨hm, hm2⟩
  rcases hc1 with h | ⟨h1, h2⟩ | h
  · have e1 : decide (c = 0) = false := decide_eq_false (by omega)
    have e2 : decide (0 < c) = true := decide_eq_true h
    refine ⟨c, handC cs i (c / m) s k, ?_, _, _, rfl⟩
    simp only [m__law_draw, mkDef, startV, sSeq, sIf, tAnd, tV, tNot, tOr, xOp, xUn, xVar, xC, xB, xCons, xNil, xTup, sAsg, gVar, setV, sRet, sNext, Out.bind_ok, ofOpt_some, ofOpt_none, List.length_cons, List.length_nil, List.map_cons, List.map_nil, List.getElem?_cons_zero, List.getElem?_cons_succ, List.cons_append, List.nil_append, List.set_cons_zero, List.set_cons_succ, Option.bind_some, Option.map_some, truth, if_true, if_false, Bool.false_eq_true, decide_eq_true_eq, Nat.reduceAdd, Nat.reduceSub, List.replicate_succ, List.replicate_zero, hx0, hx1, hx2, hx3, hx4, hp2, hp4, vEq_int, vGt_int, e1, e2, vAdd_int, vInt_int, y4, w4]
  · subst h1
    have e1 : decide ((0 : Int) = 0) = true := rfl
    have e2 : decide ((0 : Int) < 0) = false := rfl
    have e3 : decide (i < cs.length) = false := decide_eq_false h2
    refine ⟨numC2 (numC1 (numC0 s k)) / 16, handC cs i 0 s (k + 1), ?_, _, _, rfl⟩
    simp only [m__law_draw, mkDef, startV, sSeq, sIf, tAnd, tV, tNot, tOr, xOp, xUn, xVar, xC, xB, xCons, xNil, xTup, sAsg, gVar, setV, sRet, sNext, Out.bind_ok, ofOpt_some, ofOpt_none, List.length_cons, List.length_nil, List.map_cons, List.map_nil, List.getElem?_cons_zero, List.getElem?_cons_succ, List.cons_append, List.nil_append, List.set_cons_zero, List.set_cons_succ, Option.bind_some, Option.map_some, truth, if_true, if_false, Bool.false_eq_true, decide_eq_true_eq, Nat.reduceAdd, Nat.reduceSub, List.replicate_succ, List.replicate_zero, hx0, hx1, hx2, hx3, hx4, hl0, hp4, vEq_int, vGt_int, vLt_int, e1, e2, e3, vAdd_int, vInt_int, z, z0, z1, y1, y2, y5, z2, y3, w1, w2, w3]
    rfl
  · have e1 : decide (c = 0) = false := decide_eq_false (by omega)
    have e2 : decide (0 < c) = false := decide_eq_false (by omega)
    refine ⟨numC2 (numC1 (numC0 s k)) / 16, handC cs i c s (k + 1), ?_, _, _, rfl⟩
    simp only [m__law_draw, mkDef, startV, sSeq, sIf, tAnd, tV, tNot, tOr, xOp, xUn, xVar, xC, xB, xCons, xNil, xTup, sAsg, gVar, setV, sRet, sNext, Out.bind_ok, ofOpt_some, ofOpt_none, List.length_cons, List.length_nil, List.map_cons, List.map_nil, List.getElem?_cons_zero, List.getElem?_cons_succ, List.cons_append, List.nil_append, List.set_cons_zero, List.set_cons_succ, Option.bind_some, Option.map_some, truth, if_true, if_false, Bool.false_eq_true, decide_eq_true_eq, Nat.reduceAdd, Nat.reduceSub, List.replicate_succ, List.replicate_zero, hx0, hx1, hx2, hx3, hx4, hl0, hp4, vEq_int, vGt_int, vLt_int, e1, e2, vAdd_int, vInt_int, z, z0, z1, y1, y2, y5, z2, y3, w1, w2, w3]
    rfl
def stepHS (s x : Int) : Int := (s * 48271 + x * 5 + 29) % 2147483587
/-- a cell is taken -/
theorem draw_cell {cs : List Int} {i s k : Int} {rest : Sto} {m : Int} (hm : 0 < m) (hm2 : m < 1073741824) (hi : 0 ≤ i) (hil : i < cs.length) :
    ∃ r hd', m__law_draw [.loc 0, .int m] (handC cs i 0 s k :: rest) = .ok (.int (r % m)) (hd' :: rest) ∧ ∃ c' s' k', hd' = handC cs (i + 1) c' s' k' := by
  have e1 : decide ((0 : Int) = 0) = true := rfl
  have e2 : decide ((0 : Int) < 0) = false := rfl
  have e3 : decide (i < cs.length) = true := decide_eq_true hil
  have q0 := fun st => ix_cells (cs := cs) (i := i) st hi hil
  generalize cs.getD i.toNat 0 = x at q0
  have v1 : ∀ st (a : Int), vMul st (.int a) (.int 48271) = some (.int (a * 48271)) := fun st a => vMul_r _ _ _ (by decide)
  have v2 : ∀ st (a : Int), vMul st (.int a) (.int 5) = some (.int (a * 5)) := fun st a => vMul_r _ _ _ (by decide)
  have y0 : ∀ st (a : Int), vMod st (.int a) (.int 2147483587) = some (.int (a % 2147483587)) := fun st a => vMod_int _ _ _ (by decide)
  have z : ∀ st (a : Int), vMul st (.int a) (.int 69621) = some (.int (a * 69621)) := fun st a => vMul_r _ _ _ (by decide)
  have z0 : ∀ st (a : Int), vMul st (.int 7877) (.int a) = some (.int (7877 * a)) := fun st a => vMul_l _ _ _ (by decide)
  have z1 : ∀ st (a b : Int), vMul st (.int (a % 2147483647)) (.int b) = some (.int (a % 2147483647 * b)) := fun st a b => vMul_l _ _ _ (small_mod a (by decide) (by decide))
  have y1 : ∀ st (a : Int), vMod st (.int a) (.int 2147483647) = some (.int (a % 2147483647)) := fun st a => vMod_int _ _ _ (by decide)
  have y2 : ∀ st (a : Int), vMod st (.int a) (.int 2147483399) = some (.int (a % 2147483399)) := fun st a => vMod_int _ _ _ (by decide)
  have y5 : ∀ st (a : Int), vMod st (.int a) (.int 2147483629) = some (.int (a % 2147483629)) := fun st a => vMod_int _ _ _ (by decide)
  have z2 : ∀ st (a b : Int), vMul st (.int (a % 2147483399)) (.int b) = some (.int (a % 2147483399 * b)) := fun st a b => vMul_l _ _ _ (small_mod a (by decide) (by decide))
  have y3 : ∀ st (a : Int), vMod st (.int a) (.int m) = some (.int (a % m)) := fun st a => vMod_int _ _ _ hm
  have w1 : ∀ st (a : Int), vDiv st (.int a) (.int 1103) = some (.int (a / 1103)) := fun st a => vDiv_int _ _ _ (by decide)
  have w2 : ∀ st (a : Int), vDiv st (.int a) (.int 2311) = some (.int (a / 2311)) := fun st a => vDiv_int _ _ _ (by decide)
  have w3 : ∀ st (a : Int), vDiv st (.int a) (.int 16) = some (.int (a / 16)) := fun st a => vDiv_int _ _ _ (by decide)
  have w4 : ∀ st (a : Int), vDiv st (.int a) (.int m) = some (.int (a / m)) := fun st a => vDiv_int _ _ _ ⟨hm, hm2⟩
  by_cases hx : (1000000000000000000 : Int) ≤ x
  · have e4 : decide ((1000000000000000000 : Int) ≤ x) = true := decide_eq_true hx
    have e5 : decide (0 < x) = true := decide_eq_true (by omega)
    refine ⟨x, handC cs (i + 1) (x / m) (stepHS s x) k, ?_, _, _, _, rfl⟩
    simp only [m__law_draw, mkDef, startV, sSeq, sIf, tAnd, tV, tNot, tOr, xOp, xUn, xVar, xC, xB, xCons, xNil, xTup, sAsg, gVar, setV, sRet, sNext, Out.bind_ok, ofOpt_some, ofOpt_none, List.length_cons, List.length_nil, List.map_cons, List.map_nil, List.getElem?_cons_zero, List.getElem?_cons_succ, List.cons_append, List.nil_append, List.set_cons_zero, List.set_cons_succ, Option.bind_some, Option.map_some, truth, if_true, if_false, Bool.false_eq_true, decide_eq_true_eq, Nat.reduceAdd, Nat.reduceSub, List.replicate_succ, List.replicate_zero, hx0, hx1, hx2, hx3, hx4, hl0, hp1, hp2, hp3, hp4, vEq_int, vGt_int, vLt_int, vGe_int, ten18, e1, e2, e3, e4, e5, q0, vAdd_int, vInt_int, v1, v2, y0, y3, w4, stepHS, xIf]
  · have e4 : decide ((1000000000000000000 : Int) ≤ x) = false := decide_eq_false hx
    refine ⟨numC2 (numC1 (numC0 (stepHS s x) k)) / 16, handC cs (i + 1) 0 (stepHS s x) (k + 1), ?_, _, _, _, rfl⟩
    simp only [m__law_draw, mkDef, startV, sSeq, sIf, tAnd, tV, tNot, tOr, xOp, xUn, xVar, xC, xB, xCons, xNil, xTup, sAsg, gVar, setV, sRet, sNext, Out.bind_ok, ofOpt_some, ofOpt_none, List.length_cons, List.length_nil, List.map_cons, List.map_nil, List.getElem?_cons_zero, List.getElem?_cons_succ, List.cons_append, List.nil_append, List.set_cons_zero, List.set_cons_succ, Option.bind_some, Option.map_some, truth, if_true, if_false, Bool.false_eq_true, decide_eq_true_eq, Nat.reduceAdd, Nat.reduceSub, List.replicate_succ, List.replicate_zero, hx0, hx1, hx2, hx3, hx4, hl0, hp1, hp2, hp3, hp4, vEq_int, vGt_int, vLt_int, vGe_int, ten18, e1, e2, e3, e4, q0, vAdd_int, vInt_int, v1, v2, y0, xIf, z, z0, z1, y1, y2, y5, z2, y3, w1, w2, w3]
    rfl
theorem draw_ok {hd : Cell} {rest : Sto} {m : Int} (H : HandOk hd) (hm : 0 < m) (hm2 : m < 1073741824) : ∃ r hd', m__law_draw [.loc 0, .int m] (hd :: rest) = .ok (.int r) (hd' :: rest) ∧ 0 ≤ r ∧ r < m ∧ HandOk hd' := by
  obtain ⟨cs, i, c, s, k, hi, rfl⟩ := H
  have em : ∀ a : Int, 0 ≤ a % m ∧ a % m < m := fun a => ⟨Int.emod_nonneg a (Int.ne_of_gt hm), Int.emod_lt_of_pos a hm⟩
  by_cases h : c = 0 ∧ i < cs.length
  · obtain ⟨rfl, h2⟩ := h
    obtain ⟨r, hd', h3, c', s', k', rfl⟩ := draw_cell (s := s) (k := k) (rest := rest) hm hm2 hi h2
    exact ⟨_, _, h3, (em r).1, (em r).2, cs, i + 1, c', s', k', by omega, rfl⟩
  · obtain ⟨r, hd', h3, c', k', rfl⟩ := draw_num (cs := cs) (i := i) (c := c) (s := s) (k := k) (rest := rest) hm hm2 (by omega)
    exact ⟨_, _, h3, (em r).1, (em r).2, cs, i, c', s, k', hi, rfl⟩
end Mi
end
section
set_option linter.all false
set_option autoImplicit false
set_option maxRecDepth 100000
namespace Mi
mutual
theorem fx_under (n : Nat) : ∀ d : D, d.fx = true → d.under n = true
  | .tup xs, h => fxL_under n xs h
  | .lst xs, h => fxL_under n xs h
  | .dct kvs, h => fxK_under n kvs h
  | .ins c fs, h => fxF_under n fs h
  | .loc l, h => by simp [D.fx] at h
  | .non, h => rfl
  | .bl _, h => rfl
  | .int _, h => rfl
  | .str _, h => rfl
  | .scr _, h => by simp [D.fx] at h
  | .exn, h => by simp [D.fx] at h
theorem fxL_under (n : Nat) : ∀ ds : List D, fxL ds = true → underL n ds = true
  | [], h => rfl
  | x :: xs, h => by
    simp only [fxL, Bool.and_eq_true] at h
    simp only [underL, fx_under n x h.1, fxL_under n xs h.2, Bool.and_self]
theorem fxK_under (n : Nat) : ∀ ds : List (D × D), fxK ds = true → underK n ds = true
  | [], h => rfl
  | (k, v) :: xs, h => by
    simp only [fxK, Bool.and_eq_true] at h
    simp only [underK, fx_under n k h.1.1.1, fx_under n v h.1.2, fxK_under n xs h.2, Bool.and_self]
theorem fxF_under (n : Nat) : ∀ ds : List (Nat × D), fxF ds = true → underF n ds = true
  | [], h => rfl
  | (k, v) :: xs, h => by
    simp only [fxF, Bool.and_eq_true] at h
    simp only [underF, fx_under n v h.1, fxF_under n xs h.2, Bool.and_self]
end
def Cell.fx : Cell → Bool
  | .lst xs => fxL xs
  | .dct kvs => fxK kvs
  | .ins _ fs => fxF fs
  | .dead => true
def stFx (st : Sto) : Prop := ∀ c ∈ st, c.fx = true
theorem cell_under (n : Nat) (c : Cell) (h : c.fx = true) : c.under n = true := by
  cases c with
  | lst xs => exact fxL_under n xs h
  | dct kvs => exact fxK_under n kvs h
  | ins c fs => exact fxF_under n fs h
  | dead => rfl
theorem cells_under (n : Nat) : ∀ st : Sto, stFx st → cellsUnder n st = true
  | [], h => rfl
  | c :: r, h => by
    simp only [cellsUnder, cell_under n c (h c List.mem_cons_self), cells_under n r (fun x hx => h x (List.mem_cons_of_mem _ hx)), Bool.and_self]
theorem fxL_all : ∀ {ds : List D}, fxL ds = true ↔ ∀ d ∈ ds, d.fx = true
  | [] => by simp [fxL]
  | x :: xs => by simp [fxL, fxL_all (ds := xs)]
theorem fxL_map {α : Type} {f : α → D} {xs : List α} (h : ∀ x ∈ xs, (f x).fx = true) : fxL (xs.map f) = true := fxL_all.mpr fun d hd => by
  obtain ⟨x, hx, rfl⟩ := List.mem_map.mp hd
  exact h x hx
theorem hand_fx {hd : Cell} (h : HandOk hd) : hd.fx = true := by
  obtain ⟨cs, i, c, s, k, hi, rfl⟩ := h
  show fxL [.lst (cs.map .int), .int i, .int c, .int s, .int k] = true
  have : fxL (cs.map D.int) = true := fxL_map fun _ _ => rfl
  simp only [fxL, D.fx, this, Bool.and_self]
theorem stFx_cons {c : Cell} {st : Sto} (h : c.fx = true) (H : stFx st) : stFx (c :: st) := fun x hx => by
  rcases List.mem_cons.mp hx with rfl | hx
  · exact h
  · exact H x hx
theorem stFx_nil : stFx [] := fun x hx => by cases hx
/-- a call upon the caller's store: what is left behind is cut off -/
theorem xCall_ok {np : Nat} {g : Fn} {ma : XA} {σ : Env} {st st1 s gb : Sto} {ds : List D} {d : D} (ha : ma σ st = .ok ds st1) (hl : ds.length = np) (h : g ds st1 = .ok d (s ++ gb)) (hs : s.length = st1.length) (hd : d.fx = true) (hf : stFx s) :
    xCall np g ma σ st = .ok d s := by
  unfold xCall
  rw [ha]
  have ht : (s ++ gb).take st1.length = s := by rw [← hs]; simp
  simp only [Out.bind_ok, hl, if_true, h, trunc, ht, fx_under _ d hd, cells_under _ s hf, Bool.and_self]
theorem atI_some {xs : List D} {i : Int} (h0 : 0 ≤ i) (h1 : i < xs.length) : ∃ x ∈ xs, atI xs i = some x ∧ xs[i.toNat]? = some x := by
  have h2 : i.toNat < xs.length := by omega
  refine ⟨xs[i.toNat], List.getElem_mem h2, ?_, by simp [h2]⟩
  unfold atI ixN
  rw [if_pos h0, if_pos h1]
  simp [h2]
theorem vLen_lst (st : Sto) (xs : List D) : vLen st [.lst xs] = some (.int xs.length) := rfl
theorem some_ok {hd : Cell} {rest : Sto} {xs : List D} (H : HandOk hd) (hr : stFx rest) (hx0 : xs ≠ []) (hx : xs.length < 1073741824) :
    ∃ x hd', m__law_some [.loc 0, .lst xs] (hd :: rest) = .ok x (hd' :: rest) ∧ x ∈ xs ∧ HandOk hd' := by
  have hlp : (0 : Int) < xs.length := by
    have : 0 < xs.length := List.length_pos_iff.mpr hx0
    omega
  obtain ⟨r, hd', h1, h2, h3, h4⟩ := draw_ok (rest := rest) (m := xs.length) H hlp (by omega)
  obtain ⟨x, hxm, h5, _⟩ := atI_some h2 h3
  have hc : xCall 2 m__law_draw (xCons (xVar 0) (xCons (xB vLen (xCons (xVar 1) xNil)) xNil)) [some (.loc 0), some (.lst xs)] (hd :: rest) = .ok (.int r) (hd' :: rest) :=
    xCall_ok (st1 := hd :: rest) (gb := []) (ds := [.loc 0, .int xs.length]) rfl rfl (by rw [List.append_nil]; exact h1) rfl rfl (stFx_cons (hand_fx h4) hr)
  refine ⟨x, hd', ?_, hxm, h4⟩
  have h6 : vIx (hd' :: rest) (.lst xs) (.int r) = some x := h5
  simp only [m__law_some, mkDef, startV, sSeq, sIf, tAnd, tV, tNot, tOr, xOp, xUn, xVar, xC, xB, xCons, xNil, xTup, sAsg, gVar, setV, sRet, sNext, Out.bind_ok, ofOpt_some, ofOpt_none, List.length_cons, List.length_nil, List.map_cons, List.map_nil, List.getElem?_cons_zero, List.getElem?_cons_succ, List.cons_append, List.nil_append, List.set_cons_zero, List.set_cons_succ, Option.bind_some, Option.map_some, truth, if_true, if_false, Bool.false_eq_true, decide_eq_true_eq, Nat.reduceAdd, Nat.reduceSub, List.replicate_succ, List.replicate_zero, hc, h6]
theorem fz_loc {st : Sto} {l : Nat} {xs : List D} (h : st[l]? = some (.lst xs)) (hf : fxL xs = true) : fz st (.loc l) = some (.lst xs, st.set l .dead) := by
  show fzN 6 l st = _
  simp only [fzN, h, trL_fx xs _ hf, Option.map_some]
end Mi
end
section
set_option linter.all false
set_option autoImplicit false
set_option maxRecDepth 100000
namespace Mi
theorem mkDef_rt {np n : Nat} {b : XS} {ds : List D} {st st' : Sto} {d : D} (hl : ds.length = np) (h : b (startV ds n) st = .rt d st') : mkDef np n b ds st = .ok d st' := by
  simp only [mkDef, hl, if_true, h]
theorem mkDef_nx {np n : Nat} {b : XS} {ds : List D} {st st' : Sto} {σ' : Env} (hl : ds.length = np) (h : b (startV ds n) st = .nx σ' st') : mkDef np n b ds st = .ok .non st' := by
  simp only [mkDef, hl, if_true, h]
theorem sSeq_nx {a b : XS} {σ σ1 : Env} {st st1 : Sto} (h : a σ st = .nx σ1 st1) : sSeq a b σ st = b σ1 st1 := by
  simp only [sSeq, h]
theorem sSeq_rt {a b : XS} {σ : Env} {st st1 : Sto} {d : D} (h : a σ st = .rt d st1) : sSeq a b σ st = .rt d st1 := by
  simp only [sSeq, h]
theorem sRet_ok {m : XE} {σ : Env} {st st1 : Sto} {d : D} (h : m σ st = .ok d st1) : sRet m σ st = .rt d st1 := by
  simp only [sRet, h]
theorem sIf_t {c : XT} {A B : XS} {σ : Env} {st st1 : Sto} (h : c σ st = .ok true st1) : sIf c A B σ st = A σ st1 := by
  simp only [sIf, h, if_true]
theorem sIf_f {c : XT} {A B : XS} {σ : Env} {st st1 : Sto} (h : c σ st = .ok false st1) : sIf c A B σ st = B σ st1 := by
  simp only [sIf, h, Bool.false_eq_true, if_false]
theorem sIf_fn {c : XT} {A : XS} {σ : Env} {st st1 : Sto} (h : c σ st = .ok false st1) : sIf c A sNext σ st = .nx σ st1 := by
  rw [sIf_f h]
  rfl
theorem sAsg_var {m : XE} {σ : Env} {st st1 : Sto} {d : D} {i : Nat} (h : m σ st = .ok d st1) : sAsg m (gVar i) σ st = .nx (setV σ i d) st1 := by
  simp only [sAsg, h, gVar]
theorem callP {np : Nat} {g : Fn} {ma : XA} {σ : Env} {st s : Sto} {ds : List D} {d : D} (ha : ma σ st = .ok ds st) (hl : ds.length = np) (hp : fxL ds = true) (h : g ds [] = .ok d s) (hd : d.fx = true) : xCallP np g ma σ st = .ok d st :=
  xCallP_ok ha hl hp (runP_ok h hd)
theorem xOp_ok {f : Sto → D → D → Option D} {a b : XE} {σ : Env} {st st1 st2 : Sto} {x y d : D} (h1 : a σ st = .ok x st1) (h2 : b σ st1 = .ok y st2) (h : f st2 x y = some d) : xOp f a b σ st = .ok d st2 := by
  simp only [xOp, h1, h2, Out.bind_ok, h, ofOpt_some]
theorem xB_ok {f : Sto → List D → Option D} {ma : XA} {σ : Env} {st st1 : Sto} {ds : List D} {d : D} (h : ma σ st = .ok ds st1) (hf : f st1 ds = some d) : xB f ma σ st = .ok d st1 := by
  simp only [xB, h, Out.bind_ok, hf, ofOpt_some]
theorem xC1 {m : XE} {σ : Env} {st st1 : Sto} {d : D} (h : m σ st = .ok d st1) : xCons m xNil σ st = .ok [d] st1 := by
  simp only [xCons, xNil, h, Out.bind_ok]
theorem frz_ok {m : Env → Sto → Out (List D)} {σ : Env} {st st1 : Sto} {ds : List D} (h : m σ st = .ok ds st1) : xFrz m σ st = .ok (.lst ds) st1 := by
  simp only [xFrz, h, Out.bind_ok]
/-- the words -/
abbrev FUN : List Nat := [102, 117, 110]
abbrev USE : List Nat := [117, 115, 101]
/-- terms -/
inductive Tm where
  | v (n : Nat)
  | l (t : Tm)
  | a (s t : Tm)
  deriving DecidableEq
namespace Tm
def d : Tm → D
  | v n => .int n
  | l t => .tup [.str FUN, t.d]
  | a s t => .tup [.str USE, s.d, t.d]
def sz : Tm → Nat
  | v _ => 1
  | l t => t.sz + 1
  | a s t => s.sz + t.sz + 1
def occ : Tm → Nat → Nat
  | v n, k => if n = k then 1 else 0
  | l t, k => t.occ k
  | a s t, k => s.occ k + t.occ k
def once : Tm → Nat → Bool
  | v _, _ => true
  | l t, k => decide (t.occ k ≤ 1) && t.once (k + 1)
  | a s t, k => s.once k && t.once k
def just : Tm → Nat → Bool
  | v _, _ => true
  | l t, k => decide (t.occ k = 1) && t.just (k + 1)
  | a s t, k => s.just k && t.just k
def sh : Tm → Nat → Nat → Tm
  | v n, lo, b => if lo ≤ n then v (n + b) else v n
  | l t, lo, b => l (t.sh lo b)
  | a s t, lo, b => a (s.sh lo b) (t.sh lo b)
/-- o put for the argument k, inner functions further in -/
def pt : Tm → Nat → Tm → Nat → Tm
  | v n, k, o, i => if n = k then o.sh k i else if k < n then v (n - 1) else v n
  | l t, k, o, i => l (t.pt k o (i + 1))
  | a s t, k, o, i => a (s.pt k o i) (t.pt k o i)
def args : Tm → List Nat
  | v n => [n]
  | l t => t.args
  | a s t => s.args ++ t.args
def cl : Tm → Nat → Bool
  | v n, k => decide (n < k)
  | l t, k => t.cl (k + 1)
  | a s t, k => s.cl k && t.cl k
def isV : Tm → Bool
  | v _ => true
  | _ => false
def isL : Tm → Bool
  | l _ => true
  | _ => false
theorem fx : ∀ t : Tm, t.d.fx = true
  | v n => rfl
  | l t => by simp [d, D.fx, fxL, fx t]
  | a s t => by simp [d, D.fx, fxL, fx s, fx t]
theorem pos : ∀ t : Tm, 1 ≤ t.sz
  | v n => Nat.le_refl _
  | l t => by simp [sz]
  | a s t => by simp [sz]
theorem flat : ∀ (t : Tm) (n : Nat), t.sz ≤ n → t.d.flat n = true
  | v k, n, h => by simp [d, D.flat]
  | l t, n, h => by
    simp only [sz] at h
    obtain ⟨m, rfl⟩ : ∃ m, n = m + 1 := ⟨n - 1, by omega⟩
    simp [d, D.flat, flatL, flat t m (by omega)]
  | a s t, n, h => by
    simp only [sz] at h
    obtain ⟨m, rfl⟩ : ∃ m, n = m + 1 := ⟨n - 1, by omega⟩
    simp [d, D.flat, flatL, flat s m (by omega), flat t m (by omega)]
end Tm
theorem int_ok (t : Tm) : m_is_integer [t.d] [] = .ok (.bl t.isV) [] := by cases t <;> rfl
section
variable {σ : Env} {st : Sto}
theorem call_int {ma : XA} {t : Tm} (h : ma σ st = .ok [t.d] st) : xCallP 1 m_is_integer ma σ st = .ok (.bl t.isV) st := callP h rfl (by simp [fxL, t.fx]) (int_ok t) rfl
end
/-- [f(part) for part in t[1:]], f telling whole numbers -/
theorem parts_l {own : Nat} {e : XE} {σ : Env} {st : Sto} {t : Tm} {x : Int} (h0 : σ[0]? = some (some (Tm.l t).d)) (he : e (setV (wipeV σ [own]) own t.d) st = .ok (.int x) st) :
    xFrz (xComp [own] (iAny (xSl (xVar 0) (oSome (xC (.int 1))) oNone)) (gVar own) tTrue e) σ st = .ok (.lst [.int x]) st := by
  refine frz_ok ?_
  have hi : iAny (xSl (xVar 0) (oSome (xC (.int 1))) oNone) σ st = .ok ⟨[t.d], none⟩ st := by
    have e1 : vSl st (Tm.l t).d (some 1) none = some (.tup [t.d]) := rfl
    simp only [iAny, xSl, xVar, h0, oSome, xC, oNone, Out.bind_ok, e1, ofOpt_some]
    rfl
  have hl : ([t.d] : List D).length ≤ szL := by simp [szL]
  exact xComp_map (fun _ => .int x) hi (fun y hy => by rw [List.mem_singleton.mp hy]; exact ⟨_, rfl, he⟩) hl
theorem parts_a {own : Nat} {e : XE} {σ : Env} {st : Sto} {s t : Tm} {x y : Int} (h0 : σ[0]? = some (some (Tm.a s t).d)) (he : e (setV (wipeV σ [own]) own s.d) st = .ok (.int x) st) (he2 : e (setV (wipeV σ [own]) own t.d) st = .ok (.int y) st) :
    xFrz (xComp [own] (iAny (xSl (xVar 0) (oSome (xC (.int 1))) oNone)) (gVar own) tTrue e) σ st = .ok (.lst [.int x, .int y]) st := by
  refine frz_ok ?_
  have hi : iAny (xSl (xVar 0) (oSome (xC (.int 1))) oNone) σ st = .ok ⟨[s.d, t.d], none⟩ st := by
    have e1 : vSl st (Tm.a s t).d (some 1) none = some (.tup [s.d, t.d]) := rfl
    simp only [iAny, xSl, xVar, h0, oSome, xC, oNone, Out.bind_ok, e1, ofOpt_some]
    rfl
  unfold xComp
  rw [hi]
  simp only [Out.bind_ok, compL, It.okAt, if_true, gVar, tTrue, he, he2, List.length_nil, List.nil_append, List.length_cons, List.cons_append]
  rfl
theorem times_ok : ∀ (n : Nat) (t : Tm) (k : Nat), t.sz ≤ n → m_times_in n [t.d, .int k] [] = .ok (.int (t.occ k)) []
  | 0, t, k, h => by have := t.pos; omega
  | n + 1, .v m, k, h => by
    have e := call_int (σ := [some (Tm.v m).d, some (.int k), none]) (st := []) (ma := xCons (xVar 0) xNil) (t := .v m) rfl
    refine mkDef_rt rfl ?_
    show sSeq _ _ [some (Tm.v m).d, some (.int k), none] [] = _
    refine sSeq_rt ?_
    rw [sIf_t (by simp only [tV, e, Out.bind_ok]; rfl)]
    refine sRet_ok (xB_ok (ds := [.bl (decide ((m : Int) = k))]) rfl ?_)
    show some (D.int (if decide ((m : Int) = k) then 1 else 0)) = _
    simp only [Tm.occ, decide_eq_true_eq]
    by_cases hm : m = k
    · subst hm; simp
    · have : ¬ (m : Int) = k := by omega
      simp [hm, this]
  | n + 1, .l t, k, h => by
    have e := call_int (σ := [some (Tm.l t).d, some (.int k), none]) (st := []) (ma := xCons (xVar 0) xNil) (t := .l t) rfl
    refine mkDef_rt rfl ?_
    show sSeq _ _ [some (Tm.l t).d, some (.int k), none] [] = _
    rw [sSeq_nx (sIf_fn (by simp only [tV, e, Out.bind_ok]; rfl))]
    simp only [Tm.sz] at h
    refine sRet_ok (xB_ok (xC1 (parts_l (own := 2) (x := t.occ k) rfl ?_)) ?_)
    · exact callP (ds := [t.d, .int k]) rfl rfl (by simp [fxL, t.fx, D.fx]) (times_ok n t k (by omega)) rfl
    · simp [vSum, lstOf, intsOf, Tm.occ]
  | n + 1, .a s t, k, h => by
    have e := call_int (σ := [some (Tm.a s t).d, some (.int k), none]) (st := []) (ma := xCons (xVar 0) xNil) (t := .a s t) rfl
    refine mkDef_rt rfl ?_
    show sSeq _ _ [some (Tm.a s t).d, some (.int k), none] [] = _
    rw [sSeq_nx (sIf_fn (by simp only [tV, e, Out.bind_ok]; rfl))]
    simp only [Tm.sz] at h
    refine sRet_ok (xB_ok (xC1 (parts_a (own := 2) (x := s.occ k) (y := t.occ k) rfl ?_ ?_)) ?_)
    · exact callP (ds := [s.d, .int k]) rfl rfl (by simp [fxL, s.fx, D.fx]) (times_ok n s k (by omega)) rfl
    · exact callP (ds := [t.d, .int k]) rfl rfl (by simp [fxL, t.fx, D.fx]) (times_ok n t k (by omega)) rfl
    · simp [vSum, lstOf, intsOf, Tm.occ]
end Mi
end
section
set_option linter.all false
set_option autoImplicit false
set_option maxRecDepth 100000
namespace Mi
section
variable {σ : Env} {st : Sto}
theorem tInt {ma : XA} {t : Tm} (h : ma σ st = .ok [t.d] st) : tV (xCallP 1 m_is_integer ma) σ st = .ok t.isV st := by
  simp only [tV, call_int h, Out.bind_ok]
  rfl
theorem fun_l {t : Tm} (m : XE) (h : m σ st = .ok (Tm.l t).d st) : tV (xOp vEq (xOp vIx m (xC (.int 0))) (xC (.str [102, 117, 110]))) σ st = .ok true st := by
  have e1 : xOp vIx m (xC (.int 0)) σ st = .ok (.str FUN) st := xOp_ok h rfl rfl
  have e2 : xOp vEq (xOp vIx m (xC (.int 0))) (xC (.str [102, 117, 110])) σ st = .ok (.bl true) st := xOp_ok e1 rfl rfl
  simp only [tV, e2, Out.bind_ok]
  rfl
theorem fun_a {s t : Tm} (m : XE) (h : m σ st = .ok (Tm.a s t).d st) : tV (xOp vEq (xOp vIx m (xC (.int 0))) (xC (.str [102, 117, 110]))) σ st = .ok false st := by
  have e1 : xOp vIx m (xC (.int 0)) σ st = .ok (.str USE) st := xOp_ok h rfl rfl
  have e2 : xOp vEq (xOp vIx m (xC (.int 0))) (xC (.str [102, 117, 110])) σ st = .ok (.bl false) st := xOp_ok e1 rfl rfl
  simp only [tV, e2, Out.bind_ok]
  rfl
theorem xAnd_bl {a b : XE} {x y : Bool} (h1 : a σ st = .ok (.bl x) st) (h2 : x = true → b σ st = .ok (.bl y) st) : xAnd a b σ st = .ok (.bl (x && y)) st := by
  cases x with
  | false => simp only [xAnd, h1, Out.bind_ok, truth, ofOpt_some]; rfl
  | true => simp only [xAnd, h1, Out.bind_ok, truth, ofOpt_some, h2 rfl]; rfl
end
theorem once_ok : ∀ (n : Nat) (t : Tm) (k : Nat), t.sz ≤ n → t.sz ≤ 30 → m_all_once n [t.d, .int k] [] = .ok (.bl (t.once k)) []
  | 0, t, k, h, _ => by have := t.pos; omega
  | n + 1, .v m, k, h, _ => by
    refine mkDef_rt rfl (sSeq_rt ?_)
    rw [sIf_t (tInt (t := .v m) rfl)]
    rfl
  | n + 1, .l t, k, h, h30 => by
    simp only [Tm.sz] at h h30
    refine mkDef_rt rfl ?_
    show sSeq _ _ [some (Tm.l t).d, some (.int k)] [] = _
    rw [sSeq_nx (sIf_fn (tInt (t := .l t) rfl))]
    refine sSeq_rt ?_
    rw [sIf_t (fun_l (t := t) (xVar 0) rfl)]
    refine sRet_ok (xAnd_bl (x := decide (t.occ k ≤ 1)) (y := t.once (k + 1)) ?_ fun _ => ?_)
    · have e := callP (np := 2) (g := m_times_in 30) (σ := [some (Tm.l t).d, some (.int k)]) (st := []) (ma := xCons (xOp vIx (xVar 0) (xC (.int 1))) (xCons (xVar 1) xNil)) (ds := [t.d, .int k]) rfl rfl (by simp [fxL, t.fx, D.fx]) (times_ok 30 t k (by omega)) rfl
      refine xOp_ok e rfl ?_
      show some (D.bl (decide ((t.occ k : Int) ≤ 1))) = _
      have : ((t.occ k : Int) ≤ 1) ↔ t.occ k ≤ 1 := by omega
      simp [this]
    · exact callP (ds := [t.d, .int ((k + 1 : Nat) : Int)]) rfl rfl (by simp [fxL, t.fx, D.fx]) (once_ok n t (k + 1) (by omega) (by omega)) rfl
  | n + 1, .a s t, k, h, h30 => by
    simp only [Tm.sz] at h h30
    refine mkDef_rt rfl ?_
    show sSeq _ _ [some (Tm.a s t).d, some (.int k)] [] = _
    rw [sSeq_nx (sIf_fn (tInt (t := .a s t) rfl)), sSeq_nx (sIf_fn (fun_a (s := s) (t := t) (xVar 0) rfl))]
    refine sRet_ok (xAnd_bl (x := s.once k) (y := t.once k) ?_ fun _ => ?_)
    · exact callP (ds := [s.d, .int k]) rfl rfl (by simp [fxL, s.fx, D.fx]) (once_ok n s k (by omega) (by omega)) rfl
    · exact callP (ds := [t.d, .int k]) rfl rfl (by simp [fxL, t.fx, D.fx]) (once_ok n t k (by omega) (by omega)) rfl
end Mi
end
section
set_option linter.all false
set_option autoImplicit false
set_option maxRecDepth 100000
namespace Mi
section
variable {σ : Env} {st : Sto}
theorem xIf_t {c : XT} {a b : XE} {d : D} (h : c σ st = .ok true st) (h2 : a σ st = .ok d st) : xIf c a b σ st = .ok d st := by
  simp only [xIf, h, Out.bind_ok, if_true, h2]
theorem xIf_f {c : XT} {a b : XE} {d : D} (h : c σ st = .ok false st) (h2 : b σ st = .ok d st) : xIf c a b σ st = .ok d st := by
  simp only [xIf, h, Out.bind_ok, Bool.false_eq_true, if_false, h2]
theorem tV_bl {m : XE} {b : Bool} (h : m σ st = .ok (.bl b) st) : tV m σ st = .ok b st := by
  simp only [tV, h, Out.bind_ok]
  rfl
theorem tNot_bl {c : XT} {b : Bool} (h : c σ st = .ok b st) : tNot c σ st = .ok (!b) st := by
  simp only [tNot, h, Out.bind_ok]
end
theorem asg_nx {m : XE} {b : XS} {σ : Env} {st st1 : Sto} {d : D} {i : Nat} {r : OutS} (h : m σ st = .ok d st1) (h2 : b (setV σ i d) st1 = r) : sSeq (sAsg m (gVar i)) b σ st = r := by
  rw [sSeq_nx (sAsg_var h), h2]
theorem nat_eq (a b : Nat) : decide ((a : Int) = (b : Int)) = decide (a = b) := by
  by_cases h : a = b
  · rw [decide_eq_true h]; exact decide_eq_true (by omega)
  · rw [decide_eq_false h]; exact decide_eq_false (by omega)
end Mi
end
section
set_option linter.all false
set_option autoImplicit false
set_option maxRecDepth 100000
namespace Mi
section
variable {σ : Env} {st : Sto}
theorem isT_tm (t : Tm) : vIsT [] [.tuple] st t.d = some (.bl (!t.isV)) := by cases t <;> rfl
theorem tTup {m : XE} {t : Tm} (h : m σ st = .ok t.d st) : tV (xUn (vIsT [] [.tuple]) m) σ st = .ok (!t.isV) st := by
  simp only [tV, xUn, h, Out.bind_ok, isT_tm, ofOpt_some]
  rfl
end
theorem lparts_ok : ∀ (n : Nat) (t : Tm), t.sz ≤ n → m__law_parts n [t.d] [] = .ok (.int t.sz) []
  | 0, t, h => by have := t.pos; omega
  | n + 1, .v m, h => by
    refine mkDef_rt rfl (sRet_ok ?_)
    exact xIf_f (tTup (t := .v m) rfl) rfl
  | n + 1, .l t, h => by
    simp only [Tm.sz] at h
    refine mkDef_rt rfl (sRet_ok ?_)
    show xIf _ _ _ [some (Tm.l t).d, none] [] = _
    refine xIf_t (tTup (t := .l t) rfl) (xOp_ok (x := .int 1) (y := .int t.sz) rfl (xB_ok (xC1 (parts_l (own := 1) (x := t.sz) rfl ?_)) ?_) ?_)
    · exact callP (ds := [t.d]) rfl rfl (by simp [fxL, t.fx]) (lparts_ok n t (by omega)) rfl
    · simp [vSum, lstOf, intsOf]
    · simp only [vAdd_int, Tm.sz]
      congr 2
      omega
  | n + 1, .a s t, h => by
    simp only [Tm.sz] at h
    refine mkDef_rt rfl (sRet_ok ?_)
    show xIf _ _ _ [some (Tm.a s t).d, none] [] = _
    refine xIf_t (tTup (t := .a s t) rfl) (xOp_ok (x := .int 1) (y := .int (s.sz + t.sz)) rfl (xB_ok (xC1 (parts_a (own := 1) (x := s.sz) (y := t.sz) rfl ?_ ?_)) ?_) ?_)
    · exact callP (ds := [s.d]) rfl rfl (by simp [fxL, s.fx]) (lparts_ok n s (by omega)) rfl
    · exact callP (ds := [t.d]) rfl rfl (by simp [fxL, t.fx]) (lparts_ok n t (by omega)) rfl
    · simp [vSum, lstOf, intsOf]
    · simp only [vAdd_int, Tm.sz]
      congr 2
      omega
end Mi
end
section
set_option linter.all false
set_option autoImplicit false
set_option maxRecDepth 100000
namespace Mi
mutual
/-- things that are looked at -/
def D.gt : D → Bool
  | .non => true
  | .bl _ => true
  | .int _ => true
  | .str s => s.all fun c => decide (c < 1114112)
  | .tup xs => gtL xs
  | .lst xs => fxL xs
  | .dct kvs => fxK kvs
  | _ => false
def gtL : List D → Bool
  | [] => true
  | x :: xs => x.gt && gtL xs
end
mutual
theorem gt_fx : ∀ x : D, x.gt = true → x.fx = true
  | .non, _ => rfl
  | .bl _, _ => rfl
  | .int _, _ => rfl
  | .str _, _ => rfl
  | .tup xs, h => by simp only [D.gt] at h; simp only [D.fx]; exact gtL_fx xs h
  | .lst xs, h => by simp only [D.gt] at h; simp only [D.fx]; exact h
  | .dct kvs, h => by simp only [D.gt] at h; simp only [D.fx]; exact h
  | .ins _ _, h => by simp [D.gt] at h
  | .loc _, h => by simp [D.gt] at h
  | .scr _, h => by simp [D.gt] at h
  | .exn, h => by simp [D.gt] at h
theorem gtL_fx : ∀ xs : List D, gtL xs = true → fxL xs = true
  | [], _ => rfl
  | x :: xs, h => by
    simp only [gtL, Bool.and_eq_true] at h
    simp only [fxL, gt_fx x h.1, gtL_fx xs h.2, Bool.and_self]
end
mutual
/-- how many parts may be walked -/
def D.dsz : D → Nat
  | .tup (.str _ :: r) => 1 + dszL r
  | _ => 1
def dszL : List D → Nat
  | [] => 0
  | x :: xs => x.dsz + dszL xs
end
theorem dsz_pos (x : D) : 1 ≤ x.dsz := by
  unfold D.dsz
  split <;> omega
def app2 : Option Tm → Option Tm → Option Tm
  | some p, some q => some (.a p q)
  | _, _ => none
/-- a thing that is a term, d functions around -/
def dec : Nat → D → Nat → Option Tm
  | 0, _, _ => none
  | n + 1, x, d => match x with
    | .int i => if 0 ≤ i ∧ i < (d : Int) then some (.v i.toNat) else none
    | .tup [.str s, y] => if s = FUN then (dec n y (d + 1)).map .l else none
    | .tup [.str s, y, z] => if s = USE then app2 (dec n y d) (dec n z d) else none
    | _ => none
theorem dec_some : ∀ (n : Nat) (x : D) (d : Nat) (t : Tm), dec n x d = some t → x = t.d ∧ t.cl d = true
  | 0, x, d, t, h => by simp [dec] at h
  | n + 1, x, d, t, h => by
    unfold dec at h
    split at h
    · rename_i i
      split at h
      · rename_i hi
        cases h
        refine ⟨?_, ?_⟩
        · show D.int i = D.int ((i.toNat : Nat) : Int)
          congr 1
          omega
        · simp only [Tm.cl, decide_eq_true_eq]
          omega
      · cases h
    · rename_i s y
      split at h
      · rename_i hs
        subst hs
        cases q : dec n y (d + 1) with
        | none => rw [q] at h; cases h
        | some p =>
          rw [q] at h
          cases h
          obtain ⟨h1, h2⟩ := dec_some n y (d + 1) p q
          subst h1
          exact ⟨rfl, h2⟩
      · cases h
    · rename_i s y z
      split at h
      · rename_i hs
        subst hs
        cases q : dec n y d with
        | none => rw [q] at h; cases h
        | some p =>
          cases q2 : dec n z d with
          | none => rw [q, q2] at h; cases h
          | some p2 =>
            rw [q, q2] at h
            cases h
            obtain ⟨h1, h2⟩ := dec_some n y d p q
            obtain ⟨g1, g2⟩ := dec_some n z d p2 q2
            subst h1 g1
            exact ⟨rfl, by simp [Tm.cl, h2, g2]⟩
      · cases h
    · cases h
theorem dsz_d : ∀ t : Tm, t.d.dsz = t.sz
  | .v _ => rfl
  | .l t => by simp [Tm.d, D.dsz, dszL, dsz_d t, Tm.sz]; omega
  | .a s t => by simp [Tm.d, D.dsz, dszL, dsz_d s, dsz_d t, Tm.sz]; omega
theorem gt_d : ∀ t : Tm, t.d.gt = true
  | .v _ => rfl
  | .l t => by simp [Tm.d, D.gt, gtL, gt_d t]
  | .a s t => by simp [Tm.d, D.gt, gtL, gt_d s, gt_d t]
/-- enough turns, the term is told -/
theorem dec_d : ∀ (n : Nat) (t : Tm) (d : Nat), t.sz ≤ n → t.cl d = true → dec n t.d d = some t
  | 0, t, d, h, _ => by have := t.pos; omega
  | n + 1, .v m, d, h, hc => by
    simp only [Tm.cl, decide_eq_true_eq] at hc
    have : 0 ≤ (m : Int) ∧ (m : Int) < d := by omega
    simp [dec, Tm.d, hc]
  | n + 1, .l t, d, h, hc => by
    simp only [Tm.sz] at h
    simp [dec, Tm.d, dec_d n t (d + 1) (by omega) hc]
  | n + 1, .a s t, d, h, hc => by
    simp only [Tm.sz] at h
    simp only [Tm.cl, Bool.and_eq_true] at hc
    simp [dec, Tm.d, dec_d n s d (by omega) hc.1, dec_d n t d (by omega) hc.2, app2]
section
variable {σ : Env} {st : Sto}
theorem ix0 (st : Sto) (x : D) (r : List D) : vIx st (.tup (x :: r)) (.int 0) = some x := by
  have h : (0 : Int) < ((x :: r).length : Int) := by simp
  show atI (x :: r) 0 = _
  simp only [atI, ixN, Int.le_refl, if_true, h]
  rfl
theorem tAnd_bl {a b : XT} {x y : Bool} (h1 : a σ st = .ok x st) (h2 : x = true → b σ st = .ok y st) : tAnd a b σ st = .ok (x && y) st := by
  cases x with
  | false => simp only [tAnd, h1, Out.bind_ok]; rfl
  | true => simp only [tAnd, h1, Out.bind_ok, h2 rfl]; rfl
theorem tOr_bl {a b : XT} {x y : Bool} (h1 : a σ st = .ok x st) (h2 : x = false → b σ st = .ok y st) : tOr a b σ st = .ok (x || y) st := by
  cases x with
  | true => simp only [tOr, h1, Out.bind_ok]; rfl
  | false => simp only [tOr, h1, Out.bind_ok, h2 rfl]; rfl
theorem tCmp {f : Sto → D → D → Option D} {a b : XE} {x y : D} {r : Bool} (h1 : a σ st = .ok x st) (h2 : b σ st = .ok y st) (h : f st x y = some (.bl r)) : tV (xOp f a b) σ st = .ok r st := tV_bl (xOp_ok h1 h2 h)
theorem lenT {m : XE} {xs : List D} (h : m σ st = .ok (.tup xs) st) : xB vLen (xCons m xNil) σ st = .ok (.int xs.length) st := xB_ok (xC1 h) rfl
end
theorem cat_ok {a b : XE} {xs ys : List D} {σ : Env} {st : Sto} (h1 : a σ st = .ok (.lst xs) st) (h2 : b σ st = .ok (.lst ys) st) (hl : xs.length + ys.length ≤ szL) : xFrz (xOpL lCat a b) σ st = .ok (.lst (xs ++ ys)) st := by
  have e : lCat st (.lst xs) (.lst ys) = some (xs ++ ys) := by simp [lCat, lstOf, hl]
  exact frz_ok (by simp only [xOpL, h1, h2, Out.bind_ok, e, ofOpt_some])
end Mi
end
section
set_option linter.all false
set_option autoImplicit false
set_option maxRecDepth 100000
namespace Mi
def pin : Option Tm → Int → Int
  | none, _ => -1
  | some t, left => if (t.sz : Int) ≤ left then t.sz else -1
def isI : D → Bool
  | .int _ => true
  | _ => false
def isU : D → Bool
  | .tup _ => true
  | _ => false
def isFU : D → Bool
  | .str s => decide (s = FUN) || decide (s = USE)
  | _ => false
theorem isInt_ok {x : D} (h : x.gt = true) : m_is_integer [x] [] = .ok (.bl (isI x)) [] := by
  cases x <;> first | rfl | simp [D.gt] at h
theorem one_of_ok {x : D} (h : x.gt = true) : m_is_one_of [x, .tup [.str FUN, .str USE]] [] = .ok (.bl (isFU x)) [] := by
  cases x with
  | str s =>
    have h' : (s.all fun c => decide (c < 1114112)) = true := h
    have f : (D.str s).flat 50 = true := by simpa [D.flat] using h'
    have e : vIn [] (.str s) (.tup [.str FUN, .str USE]) = some (.bl (isFU (.str s))) := by
      have e1 : inB [] (.str s) (.tup [.str FUN, .str USE]) = (if (D.str s).flat 50 && flatL 50 [.str FUN, .str USE] then some (memD (.str s) [.str FUN, .str USE]) else none) := rfl
      unfold vIn
      rw [e1, f]
      have e2 : flatL 50 [.str FUN, .str USE] = true := rfl
      rw [e2]
      simp only [Bool.and_self, if_true, Option.map_some]
      congr 2
      simp [memD, D.eqv, isFU, eq_comm]
    refine mkDef_rt rfl (sRet_ok ?_)
    show xAnd _ _ [some (.str s), some (.tup [.str FUN, .str USE])] [] = _
    exact (xAnd_bl (x := true) (y := isFU (.str s)) rfl fun _ => xOp_ok rfl rfl e).trans rfl
  | _ => first | rfl | simp [D.gt] at h
theorem within_ok (i : Int) (lo hi : Int) : m_is_within [.int i, .int lo, .int hi] [] = .ok (.bl (decide (lo ≤ i ∧ i ≤ hi))) [] := by
  refine mkDef_rt rfl (sRet_ok ?_)
  have e1 : xCallP 1 m_is_integer (xCons (xVar 0) xNil) [some (.int i), some (.int lo), some (.int hi)] [] = .ok (.bl true) [] := callP (s := []) (ds := [.int i]) rfl rfl rfl rfl rfl
  have e2 : vLe [] (.int lo) (.int i) = some (.bl (decide (lo ≤ i))) := by simp [vLe]
  have e3 : vLe [] (.int i) (.int hi) = some (.bl (decide (i ≤ hi))) := by simp [vLe]
  have hc : xChain vLe vLe (xVar 1) (xVar 0) (xVar 2) [some (.int i), some (.int lo), some (.int hi)] [] = .ok (.bl (decide (lo ≤ i ∧ i ≤ hi))) [] := by
    by_cases h : lo ≤ i
    · rw [decide_eq_true h] at e2
      simp [xChain, xVar, e2, e3, h]
    · rw [decide_eq_false h] at e2
      simp [xChain, xVar, e2, h]
  exact (xAnd_bl (x := true) e1 fun _ => hc).trans (by simp)
theorem isU_ok {σ : Env} {st : Sto} {m : XE} {x : D} (hx : x.gt = true) (h : m σ st = .ok x st) : tV (xUn (vIsT [] [.tuple]) m) σ st = .ok (isU x) st := by
  have e : vIsT [] [.tuple] st x = some (.bl (isU x)) := by cases x <;> first | rfl | simp [D.gt] at hx
  simp only [tV, xUn, h, Out.bind_ok, e, ofOpt_some]
  rfl
theorem recp {n : Nat} {y : D} {d : Nat} {left r : Int} (hy : y.gt = true) (ih : m_parts_in n [y, .int d, .int left] [] = .ok (.int r) []) {ma : XA} {σ : Env} {st : Sto} (ha : ma σ st = .ok [y, .int d, .int left] st) : xCallP 3 (m_parts_in n) ma σ st = .ok (.int r) st :=
  callP ha rfl (by simp [fxL, gt_fx y hy, D.fx]) ih rfl
theorem neg1 {σ : Env} {st : Sto} : xUn vNeg (xC (.int 1)) σ st = .ok (.int (-1)) st := rfl
theorem pin_t {t : Tm} {left : Int} (h : (t.sz : Int) ≤ left) : pin (some t) left = t.sz := if_pos h
theorem pin_f {t : Tm} {left : Int} (h : ¬ (t.sz : Int) ≤ left) : pin (some t) left = -1 := if_neg h
theorem sz_l (t : Tm) : (Tm.l t).sz = t.sz + 1 := rfl
theorem sz_a (s t : Tm) : (Tm.a s t).sz = s.sz + t.sz + 1 := rfl
theorem sz_v (n : Nat) : (Tm.v n).sz = 1 := rfl
theorem pin_neg {o : Option Tm} {left : Int} (h : left < 1) : pin o left = -1 := by
  cases o with
  | none => rfl
  | some t =>
    have := t.pos
    exact pin_f (by omega)
theorem parts_ok : ∀ (n : Nat) (x : D) (d : Nat) (left : Int), x.gt = true → x.dsz ≤ n → m_parts_in n [x, .int d, .int left] [] = .ok (.int (pin (dec n x d) left)) []
  | 0, x, d, left, _, h => by have := dsz_pos x; omega
  | n + 1, x, d, left, hg, hs => by
    refine mkDef_rt rfl ?_
    show sSeq _ _ [some x, some (.int d), some (.int left), none, none, none] [] = _
    have t1 : tV (xOp vLt (xVar 2) (xC (.int 1))) [some x, some (.int d), some (.int left), none, none, none] [] = .ok (decide (left < 1)) [] := tCmp rfl rfl rfl
    by_cases hl : left < 1
    · rw [decide_eq_true hl] at t1
      refine sSeq_rt ?_
      rw [sIf_t t1, pin_neg hl]
      rfl
    · rw [decide_eq_false hl] at t1
      rw [sSeq_nx (sIf_fn t1)]
      have t2 : tV (xCallP 1 m_is_integer (xCons (xVar 0) xNil)) [some x, some (.int d), some (.int left), none, none, none] [] = .ok (isI x) [] := tV_bl (callP (ds := [x]) rfl rfl (by simp [fxL, gt_fx x hg]) (isInt_ok hg) rfl)
      have t3 := tNot_bl (isU_ok (σ := [some x, some (.int d), some (.int left), none, none, none]) (st := []) (m := xVar 0) hg rfl)
      -- all but integers and tuples
      by_cases hI : isI x = true
      · obtain ⟨i, rfl⟩ : ∃ i, x = .int i := by cases x <;> first | exact ⟨_, rfl⟩ | cases hI
        refine sSeq_rt ?_
        rw [sIf_t t2]
        refine sRet_ok ?_
        have w : tV (xCallP 3 m_is_within (xCons (xVar 0) (xCons (xC (.int 0)) (xCons (xOp vSub (xVar 1) (xC (.int 1))) xNil)))) [some (.int i), some (.int d), some (.int left), none, none, none] [] = .ok (decide (0 ≤ i ∧ i ≤ (d : Int) - 1)) [] := tV_bl (callP (ds := [.int i, .int 0, .int ((d : Int) - 1)]) rfl rfl rfl (within_ok i 0 ((d : Int) - 1)) rfl)
        by_cases hw : 0 ≤ i ∧ i ≤ (d : Int) - 1
        · rw [decide_eq_true hw] at w
          have e : dec (n + 1) (.int i) d = some (.v i.toNat) := by
            have : 0 ≤ i ∧ i < (d : Int) := by omega
            simp [dec, this]
          rw [e]
          have e2 : pin (some (.v i.toNat)) left = 1 := by
            exact pin_t (by rw [sz_v]; omega)
          rw [e2]
          exact xIf_t w rfl
        · rw [decide_eq_false hw] at w
          have e : dec (n + 1) (.int i) d = none := by
            have : ¬ (0 ≤ i ∧ i < (d : Int)) := by omega
            simp [dec, this]
          rw [e]
          exact xIf_f w rfl
      · rw [Bool.not_eq_true] at hI
        rw [hI] at t2
        rw [sSeq_nx (sIf_fn t2)]
        by_cases hU : isU x = true
        · obtain ⟨xs, rfl⟩ : ∃ xs, x = .tup xs := by cases x <;> first | exact ⟨_, rfl⟩ | cases hU
          cases xs with
          | nil => rfl
          | cons x0 r =>
            have hg' := hg
            simp only [D.gt, gtL, Bool.and_eq_true] at hg'
            have hlen : xB vLen (xCons (xVar 0) xNil) [some (.tup (x0 :: r)), some (.int d), some (.int left), none, none, none] [] = .ok (.int ((x0 :: r).length : Nat)) [] := lenT rfl
            have hix : xOp vIx (xVar 0) (xC (.int 0)) [some (.tup (x0 :: r)), some (.int d), some (.int left), none, none, none] [] = .ok x0 [] := xOp_ok rfl rfl (ix0 _ _ _)
            have l0 : tV (xOp vEq (xB vLen (xCons (xVar 0) xNil)) (xC (.int 0))) [some (.tup (x0 :: r)), some (.int d), some (.int left), none, none, none] [] = .ok false [] := tCmp hlen rfl (by
              rw [vEq_int, decide_eq_false (by simp; omega)])
            have o1 : tV (xCallP 2 m_is_one_of (xCons (xOp vIx (xVar 0) (xC (.int 0))) (xCons (xTup (xCons (xC (.str [102, 117, 110])) (xCons (xC (.str [117, 115, 101])) xNil))) xNil))) [some (.tup (x0 :: r)), some (.int d), some (.int left), none, none, none] [] = .ok (isFU x0) [] :=
              tV_bl (callP (ds := [x0, .tup [.str FUN, .str USE]]) (by
                have e2 : xTup (xCons (xC (.str [102, 117, 110])) (xCons (xC (.str [117, 115, 101])) xNil)) [some (.tup (x0 :: r)), some (.int d), some (.int left), none, none, none] [] = .ok (.tup [.str FUN, .str USE]) [] := rfl
                simp only [xCons, xNil, hix, e2, Out.bind_ok]) rfl (by simp [fxL, gt_fx x0 hg'.1, D.fx]) (one_of_ok hg'.1) rfl)
            have t4 := tOr_bl (x := !isU (.tup (x0 :: r))) t3 fun _ => tOr_bl l0 fun _ => tNot_bl o1
            have t4' : tOr (tNot (tV (xUn (vIsT [] [.tuple]) (xVar 0)))) (tOr (tV (xOp vEq (xB vLen (xCons (xVar 0) xNil)) (xC (.int 0)))) (tNot (tV (xCallP 2 m_is_one_of (xCons (xOp vIx (xVar 0) (xC (.int 0))) (xCons (xTup (xCons (xC (.str [102, 117, 110])) (xCons (xC (.str [117, 115, 101])) xNil))) xNil)))))) [some (.tup (x0 :: r)), some (.int d), some (.int left), none, none, none] [] = .ok (!isFU x0) [] := by
              rw [t4]
              simp [isU]
            cases hF : isFU x0 with
            | false =>
              rw [hF] at t4'
              refine sSeq_rt ?_
              rw [sIf_t t4']
              have e : dec (n + 1) (.tup (x0 :: r)) d = none := by
                cases x0 with
                | str s =>
                  simp [isFU] at hF
                  match r with
                  | [] => rfl
                  | [y] => simp [dec, hF.1]
                  | [y, z] => simp [dec, hF.2]
                  | y :: z :: z2 :: r => rfl
                | _ => rfl
              rw [e]
              rfl
            | true =>
              rw [hF] at t4'
              rw [sSeq_nx (sIf_fn t4')]
              obtain ⟨s, rfl⟩ : ∃ s, x0 = .str s := by cases x0 <;> first | exact ⟨_, rfl⟩ | cases hF
              have hfu : s = FUN ∨ s = USE := by simpa [isFU] using hF
              rcases hfu with rfl | rfl
              · have q1 : tV (xOp vEq (xOp vIx (xVar 0) (xC (.int 0))) (xC (.str [102, 117, 110]))) [some (.tup (.str FUN :: r)), some (.int d), some (.int left), none, none, none] [] = .ok true [] := tCmp hix rfl rfl
                match r, hg', hs, hlen, q1 with
                | [], hg', hs, hlen, q1 =>
                  refine sSeq_rt ?_
                  rw [sIf_t (tCmp hlen (xIf_t q1 rfl) (r := true) rfl)]
                  rfl
                | [y], hg', hs, hlen, q1 =>
                  simp only [gtL, Bool.and_eq_true] at hg'
                  simp only [D.dsz, dszL] at hs
                  rw [sSeq_nx (sIf_fn (tCmp hlen (xIf_t q1 rfl) (r := false) rfl))]
                  refine sSeq_rt ?_
                  rw [sIf_t q1]
                  have ih := recp (n := n) (y := y) (d := d + 1) (left := left - 1) hg'.2.1 (parts_ok n y (d + 1) (left - 1) hg'.2.1 (by omega)) (σ := [some (.tup [.str FUN, y]), some (.int d), some (.int left), none, none, none]) (st := []) (ma := xCons (xOp vIx (xVar 0) (xC (.int 1))) (xCons (xOp vAdd (xVar 1) (xC (.int 1))) (xCons (xOp vSub (xVar 2) (xC (.int 1))) xNil))) rfl
                  refine asg_nx ih (sRet_ok ?_)
                  show xIf _ _ _ [some (.tup [.str FUN, y]), some (.int d), some (.int left), some (.int (pin (dec n y (d + 1)) (left - 1))), none, none] [] = _
                  have e : dec (n + 1) (.tup [.str FUN, y]) d = (dec n y (d + 1)).map .l := by simp [dec]
                  rw [e]
                  generalize hq : pin (dec n y (d + 1)) (left - 1) = q
                  have c : tV (xOp vLt (xVar 3) (xC (.int 0))) [some (.tup [.str FUN, y]), some (.int d), some (.int left), some (.int q), none, none] [] = .ok (decide (q < 0)) [] := tCmp rfl rfl rfl
                  cases hd : dec n y (d + 1) with
                  | none =>
                    rw [hd] at hq
                    simp only [pin] at hq
                    subst hq
                    exact xIf_t c rfl
                  | some t =>
                    rw [hd] at hq
                    rw [Option.map_some]
                    by_cases hle : (t.sz : Int) ≤ left - 1
                    · rw [pin_t hle] at hq
                      subst hq
                      rw [pin_t (by rw [sz_l]; omega), sz_l]
                      rw [decide_eq_false (by omega)] at c
                      exact xIf_f c (xOp_ok (x := .int t.sz) (y := .int 1) rfl rfl rfl)
                    · rw [pin_f hle] at hq
                      subst hq
                      rw [pin_f (by rw [sz_l]; omega)]
                      exact xIf_t c rfl
                | y :: z :: r', hg', hs, hlen, q1 =>
                  have ne : vNe [] (.int (((.str FUN :: y :: z :: r' : List D)).length : Nat)) (.int 2) = some (.bl true) := by
                    show some (D.bl (!decide (((((.str FUN :: y :: z :: r' : List D)).length : Nat) : Int) = 2))) = _
                    rw [decide_eq_false (by simp; omega)]
                    rfl
                  refine sSeq_rt ?_
                  rw [sIf_t (tCmp hlen (xIf_t q1 rfl) ne)]
                  have e : dec (n + 1) (.tup (.str FUN :: y :: z :: r')) d = none := by
                    cases r' with
                    | nil => rfl
                    | cons z2 r'' => rfl
                  rw [e]
                  rfl
              · have q1 : tV (xOp vEq (xOp vIx (xVar 0) (xC (.int 0))) (xC (.str [102, 117, 110]))) [some (.tup (.str USE :: r)), some (.int d), some (.int left), none, none, none] [] = .ok false [] := tCmp hix rfl rfl
                match r, hg', hs, hlen, q1 with
                | [], hg', hs, hlen, q1 =>
                  refine sSeq_rt ?_
                  rw [sIf_t (tCmp hlen (xIf_f q1 rfl) (r := true) rfl)]
                  rfl
                | [y], hg', hs, hlen, q1 =>
                  refine sSeq_rt ?_
                  rw [sIf_t (tCmp hlen (xIf_f q1 rfl) (r := true) rfl)]
                  rfl
                | [y, z], hg', hs, hlen, q1 =>
                  simp only [gtL, Bool.and_eq_true] at hg'
                  simp only [D.dsz, dszL] at hs
                  rw [sSeq_nx (sIf_fn (tCmp hlen (xIf_f q1 rfl) (r := false) rfl)), sSeq_nx (sIf_fn q1)]
                  have ih := recp (n := n) (y := y) (d := d) (left := left - 1) hg'.2.1 (parts_ok n y d (left - 1) hg'.2.1 (by omega)) (σ := [some (.tup [.str USE, y, z]), some (.int d), some (.int left), none, none, none]) (st := []) (ma := xCons (xOp vIx (xVar 0) (xC (.int 1))) (xCons (xVar 1) (xCons (xOp vSub (xVar 2) (xC (.int 1))) xNil))) rfl
                  refine asg_nx ih ?_
                  show sSeq _ _ [some (.tup [.str USE, y, z]), some (.int d), some (.int left), none, some (.int (pin (dec n y d) (left - 1))), none] [] = _
                  have e : dec (n + 1) (.tup [.str USE, y, z]) d = app2 (dec n y d) (dec n z d) := by simp [dec]
                  rw [e]
                  generalize hq : pin (dec n y d) (left - 1) = q
                  have c : tV (xOp vGe (xVar 4) (xC (.int 0))) [some (.tup [.str USE, y, z]), some (.int d), some (.int left), none, some (.int q), none] [] = .ok (decide (0 ≤ q)) [] := tCmp rfl rfl rfl
                  by_cases hq0 : 0 ≤ q
                  · rw [decide_eq_true hq0] at c
                    have ih2 := recp (n := n) (y := z) (d := d) (left := left - 1 - q) hg'.2.2.1 (parts_ok n z d (left - 1 - q) hg'.2.2.1 (by omega)) (σ := [some (.tup [.str USE, y, z]), some (.int d), some (.int left), none, some (.int q), none]) (st := []) (ma := xCons (xOp vIx (xVar 0) (xC (.int 2))) (xCons (xVar 1) (xCons (xOp vSub (xOp vSub (xVar 2) (xC (.int 1))) (xVar 4)) xNil))) rfl
                    refine asg_nx (xIf_t c ih2) (sRet_ok ?_)
                    show xIf _ _ _ [some (.tup [.str USE, y, z]), some (.int d), some (.int left), none, some (.int q), some (.int (pin (dec n z d) (left - 1 - q)))] [] = _
                    obtain ⟨p, hp⟩ : ∃ p, dec n y d = some p := by
                      cases hd : dec n y d with
                      | none => rw [hd] at hq; simp only [pin] at hq; omega
                      | some p => exact ⟨p, rfl⟩
                    rw [hp] at hq ⊢
                    have hle : (p.sz : Int) ≤ left - 1 := by
                      by_cases hle : (p.sz : Int) ≤ left - 1
                      · exact hle
                      · rw [pin_f hle] at hq; omega
                    rw [pin_t hle] at hq
                    subst hq
                    generalize hq2 : pin (dec n z d) (left - 1 - (p.sz : Int)) = q2
                    have c2 : tV (xOp vLt (xVar 5) (xC (.int 0))) [some (.tup [.str USE, y, z]), some (.int d), some (.int left), none, some (.int p.sz), some (.int q2)] [] = .ok (decide (q2 < 0)) [] := tCmp rfl rfl rfl
                    cases hd : dec n z d with
                    | none =>
                      rw [hd] at hq2
                      simp only [pin] at hq2
                      subst hq2
                      exact xIf_t c2 rfl
                    | some t =>
                      rw [hd] at hq2
                      show _ = Out.ok (D.int (pin (some (.a p t)) left)) []
                      by_cases hle2 : (t.sz : Int) ≤ left - 1 - (p.sz : Int)
                      · rw [pin_t hle2] at hq2
                        subst hq2
                        rw [pin_t (by rw [sz_a]; omega), sz_a]
                        rw [decide_eq_false (by omega)] at c2
                        exact xIf_f c2 (xOp_ok (x := .int ((p.sz + t.sz : Nat) : Int)) (y := .int 1) (xOp_ok (x := .int p.sz) (y := .int t.sz) rfl rfl rfl) rfl rfl)
                      · rw [pin_f hle2] at hq2
                        subst hq2
                        rw [pin_f (by rw [sz_a]; omega)]
                        exact xIf_t c2 rfl
                  · rw [decide_eq_false hq0] at c
                    refine asg_nx (xIf_f c neg1) (sRet_ok ?_)
                    have e2 : pin (app2 (dec n y d) (dec n z d)) left = -1 := by
                      cases hd : dec n y d with
                      | none => rfl
                      | some p =>
                        rw [hd] at hq
                        cases hd2 : dec n z d with
                        | none => rfl
                        | some t =>
                          show pin (some (.a p t)) left = -1
                          by_cases hle : (p.sz : Int) ≤ left - 1
                          · rw [pin_t hle] at hq; omega
                          · exact pin_f (by have := t.pos; rw [sz_a]; omega)
                    rw [e2]
                    rfl
                | y :: z :: z2 :: r', hg', hs, hlen, q1 =>
                  have ne : vNe [] (.int (((.str USE :: y :: z :: z2 :: r' : List D)).length : Nat)) (.int 3) = some (.bl true) := by
                    show some (D.bl (!decide (((((.str USE :: y :: z :: z2 :: r' : List D)).length : Nat) : Int) = 3))) = _
                    rw [decide_eq_false (by simp; omega)]
                    rfl
                  refine sSeq_rt ?_
                  rw [sIf_t (tCmp hlen (xIf_f q1 rfl) ne)]
                  rfl
        · rw [Bool.not_eq_true] at hU
          have e : dec (n + 1) x d = none := by
            cases x <;> first | rfl | (cases hU; done) | (cases hI; done)
          rw [e]
          rw [hU] at t3
          refine sSeq_rt ?_
          rw [sIf_t (tOr_bl (y := true) t3 fun h => by cases h)]
          rfl
end Mi
end
section
set_option linter.all false
set_option autoImplicit false
set_option maxRecDepth 100000
namespace Mi
theorem flatL_ints (n : Nat) : ∀ l : List Nat, flatL n (l.map fun (m : Nat) => D.int (m : Int)) = true
  | [] => rfl
  | x :: xs => by simp [flatL, D.flat, flatL_ints n xs]
abbrev nats (l : List Nat) : List D := l.map fun (m : Nat) => D.int (m : Int)
theorem nats_fx (l : List Nat) : fxL (nats l) = true := fxL_map fun _ _ => rfl
/-- affine, linear: by the term that a thing is -/
def aff (x : D) : Bool := match dec 30 x 0 with
  | none => false
  | some t => t.once 0
theorem aff_t {t : Tm} (h : t.sz ≤ 30) (hc : t.cl 0 = true) : aff t.d = t.once 0 := by
  unfold aff
  rw [dec_d 30 t 0 h hc]
theorem dec_sz {x : D} {n d : Nat} {t : Tm} (h : dec n x d = some t) (hs : x.dsz ≤ 30) : t.sz ≤ 30 := by
  have := (dec_some _ _ _ _ h).1
  rw [this, dsz_d] at hs
  exact hs
theorem is_affine_ok {x : D} (hg : x.gt = true) (hs : x.dsz ≤ 30) : m_is_affine [x] [] = .ok (.bl (aff x)) [] := by
  refine mkDef_rt rfl (sRet_ok ?_)
  show xAnd _ _ [some x] [] = _
  have e1 := callP (np := 3) (g := m_parts_in 30) (σ := [some x]) (st := []) (ma := xCons (xVar 0) (xCons (xC (.int 0)) (xCons (xC (.int (60))) xNil))) (ds := [x, .int ((0 : Nat) : Int), .int 60]) rfl rfl (by simp [fxL, gt_fx x hg, D.fx]) (parts_ok 30 x 0 60 hg hs) rfl
  unfold aff
  cases h : dec 30 x 0 with
  | none =>
    rw [h] at e1
    exact xAnd_bl (x := false) (y := false) (xOp_ok e1 rfl rfl) fun z => by cases z
  | some t =>
    rw [h] at e1
    have hsz := dec_sz h hs
    have hx := (dec_some _ _ _ _ h).1
    rw [pin_t (by omega)] at e1
    have c : vGt [] (.int (t.sz : Int)) (.int 0) = some (.bl true) := by
      have := t.pos
      rw [vGt_int, decide_eq_true (by omega)]
    exact (xAnd_bl (x := true) (y := t.once 0) (xOp_ok e1 rfl c) fun _ => callP (ds := [x, .int ((0 : Nat) : Int)]) rfl rfl (by simp [fxL, gt_fx x hg, D.fx]) (by rw [hx]; exact once_ok 30 t 0 hsz hsz) rfl).trans rfl
end Mi
end
section
set_option linter.all false
set_option autoImplicit false
set_option maxRecDepth 100000
namespace Mi
structure Aff (t : Tm) : Prop where
  cl : t.cl 0 = true
  on : t.once 0 = true
  le : t.sz ≤ 30
def tms (l : List Tm) : List D := l.map Tm.d
theorem tms_fx (l : List Tm) : fxL (tms l) = true := fxL_map fun t _ => t.fx
theorem check_ok {x : D} (hg : x.gt = true) (hs : x.dsz ≤ 30) (ha : aff x = true) : m_check_affine [x] [] = .ok .non [] := by
  refine mkDef_nx (σ' := [some x]) rfl (sIf_fn ?_)
  have := tNot_bl (tV_bl (callP (np := 1) (g := m_is_affine) (σ := [some x]) (st := []) (ma := xCons (xVar 0) xNil) (ds := [x]) rfl rfl (by simp [fxL, gt_fx x hg]) (is_affine_ok hg hs) rfl))
  rw [ha] at this
  exact this
section
variable {np : Nat} {g : Fn} {ma : XA} {σ : Env} {st s : Sto} {ds : List D} {e : Exn}
theorem callX (ha : ma σ st = .ok ds st) (hl : ds.length = np) (hp : fxL ds = true) (h : g ds [] = .exc e s) (he : e.fs = []) : xCallP np g ma σ st = .exc e st := by
  unfold xCallP runP
  rw [ha]
  simp only [Out.bind_ok, hl, fxL_pure ds hp, and_self, if_true, h, he]
  rfl
end
theorem gt_aff {t : Tm} (h : Aff t) : t.d.gt = true ∧ t.d.dsz ≤ 30 ∧ aff t.d = true := ⟨gt_d t, by rw [dsz_d]; exact h.le, by rw [aff_t h.le h.cl]; exact h.on⟩
theorem call_check {x : D} (hg : x.gt = true) (hs : x.dsz ≤ 30) (ha : aff x = true) {σ : Env} (h0 : σ[0]? = some (some x)) : sDrop (xCallP 1 m_check_affine (xCons (xVar 0) xNil)) σ [] = .nx σ [] := by
  have e : xCallP 1 m_check_affine (xCons (xVar 0) xNil) σ [] = .ok .non [] := callP (ds := [x]) (by simp [xCons, xNil, xVar, h0]) rfl (by simp [fxL, gt_fx x hg]) (check_ok hg hs ha) rfl
  simp only [sDrop, e]
namespace Tm
theorem rok : ∀ (t : Tm) (k : Nat), t.cl k = true → k + t.sz ≤ 100 → t.d.rok = true
  | v n, k, h, hk => by
    simp only [cl, decide_eq_true_eq] at h
    simp only [sz] at hk
    simp only [d, D.rok, decide_eq_true_eq]
    omega
  | l t, k, h, hk => by
    simp only [sz] at hk
    have := rok t (k + 1) h (by omega)
    simp [d, D.rok, rokL, this]
  | a s t, k, h, hk => by
    simp only [cl, Bool.and_eq_true] at h
    simp only [sz] at hk
    have h1 := rok s k h.1 (by omega)
    have h2 := rok t k h.2 (by omega)
    simp [d, D.rok, rokL, h1, h2]
theorem wt : ∀ t : Tm, t.d.wt ≤ 7 * t.sz
  | v n => by simp [d, D.wt, sz]
  | l t => by
    have := wt t
    simp [d, D.wt, wtL, sz]
    omega
  | a s t => by
    have := wt s
    have := wt t
    simp [d, D.wt, wtL, sz]
    omega
end Tm
theorem closed_tup {t : Tm} (h : t.cl 0 = true) : ∃ xs, t.d = .tup xs := by
  cases t with
  | v n => simp [Tm.cl] at h
  | l t => exact ⟨_, rfl⟩
  | a s t => exact ⟨_, rfl⟩
theorem rp_t {t : Tm} (h : Aff t) : t.d.rp = true := by
  obtain ⟨xs, e⟩ := closed_tup h.cl
  have h1 := t.rok 0 h.cl (by have := h.le; omega)
  have h2 := t.flat 50 (by have := h.le; omega)
  have h3 := t.wt
  have h4 := h.le
  rw [e] at h1 h2 h3 ⊢
  simp only [D.rp, h1, h2, Bool.and_self, Bool.true_and, decide_eq_true_eq]
  omega
end Mi
end
section
set_option linter.all false
set_option autoImplicit false
set_option maxRecDepth 100000
namespace Mi
section
variable {hd : Cell} {rest : Sto} {σ : Env}
theorem drawC (H : HandOk hd) (hr : stFx rest) (h0 : σ[0]? = some (some (.loc 0))) {mb : XE} {m : Int} (hm : mb σ (hd :: rest) = .ok (.int m) (hd :: rest)) (h1 : 0 < m) (h2 : m < 1073741824) :
    ∃ r hd', xCall 2 m__law_draw (xCons (xVar 0) (xCons mb xNil)) σ (hd :: rest) = .ok (.int r) (hd' :: rest) ∧ 0 ≤ r ∧ r < m ∧ HandOk hd' := by
  obtain ⟨r, hd', e, h3, h4, h5⟩ := draw_ok (rest := rest) H h1 h2
  refine ⟨r, hd', xCall_ok (st1 := hd :: rest) (gb := []) (ds := [.loc 0, .int m]) ?_ rfl (by rw [List.append_nil]; exact e) rfl rfl (stFx_cons (hand_fx h5) hr), h3, h4, h5⟩
  simp only [xCons, xNil, xVar, h0, hm, Out.bind_ok]
theorem someC (H : HandOk hd) (hr : stFx rest) (h0 : σ[0]? = some (some (.loc 0))) {mb : XE} {xs : List D} (hm : mb σ (hd :: rest) = .ok (.lst xs) (hd :: rest)) (h1 : xs ≠ []) (h2 : xs.length < 1073741824) (hf : fxL xs = true) :
    ∃ x hd', xCall 2 m__law_some (xCons (xVar 0) (xCons mb xNil)) σ (hd :: rest) = .ok x (hd' :: rest) ∧ x ∈ xs ∧ HandOk hd' := by
  obtain ⟨x, hd', e, h3, h4⟩ := some_ok (rest := rest) H hr h1 h2
  refine ⟨x, hd', xCall_ok (st1 := hd :: rest) (gb := []) (ds := [.loc 0, .lst xs]) ?_ rfl (by rw [List.append_nil]; exact e) rfl (fxL_all.mp hf x h3) (stFx_cons (hand_fx h4) hr), h3, h4⟩
  simp only [xCons, xNil, xVar, h0, hm, Out.bind_ok]
end
/-- some of a list, by draws -/
theorem comp_draw {rest : Sto} (hr : stFx rest) {v : List (Option D)} {x9 : Option D} : ∀ (l acc : List Nat) (hd : Cell) (y : Option D), HandOk hd → acc.length + l.length ≤ 1000 → v.length = 8 →
    ∃ l' hd', compL ⟨nats l, none⟩ (gVar 9) (tV (xOp vEq (xCall 2 m__law_draw (xCons (xVar 0) (xCons (xC (.int 2)) xNil))) (xC (.int 0)))) (xVar 9) (some (.loc 0) :: v ++ [y]) (nats l) (hd :: rest) (nats acc) = .ok (nats (acc ++ l')) (hd' :: rest) ∧ l'.Sublist l ∧ HandOk hd' := by
  intro l
  suffices hh : ∀ (it : List D) (l acc : List Nat) (hd : Cell) (y : Option D), HandOk hd → acc.length + l.length ≤ 1000 → v.length = 8 →
    ∃ l' hd', compL ⟨it, none⟩ (gVar 9) (tV (xOp vEq (xCall 2 m__law_draw (xCons (xVar 0) (xCons (xC (.int 2)) xNil))) (xC (.int 0)))) (xVar 9) (some (.loc 0) :: v ++ [y]) (nats l) (hd :: rest) (nats acc) = .ok (nats (acc ++ l')) (hd' :: rest) ∧ l'.Sublist l ∧ HandOk hd' from fun acc hd y => hh (nats l) l acc hd y
  intro it l
  induction l with
  | nil =>
    intro acc hd y H _ _
    exact ⟨[], hd, by simp [compL, It.okAt, nats], List.Sublist.refl _, H⟩
  | cons a l ih =>
    intro acc hd y H hl hv
    simp only [List.length_cons] at hl
    have g1 : gVar 9 (.int (a : Int)) (some (.loc 0) :: v ++ [y]) (hd :: rest) = some (some (.loc 0) :: v ++ [some (.int (a : Int))], hd :: rest) := by
      have : (some (D.loc 0) :: v ++ [y]).set 9 (some (.int (a : Int))) = some (.loc 0) :: v ++ [some (.int (a : Int))] := by
        rw [List.set_append_right _ _ (by simp [hv])]
        simp [hv]
      simp only [gVar, setV, this]
    obtain ⟨r, hd1, d1, d2, d3, H1⟩ := drawC (σ := some (.loc 0) :: v ++ [some (.int (a : Int))]) H hr rfl (mb := xC (.int 2)) (m := 2) rfl (by decide) (by decide)
    have t1 : tV (xOp vEq (xCall 2 m__law_draw (xCons (xVar 0) (xCons (xC (.int 2)) xNil))) (xC (.int 0))) (some (.loc 0) :: v ++ [some (.int (a : Int))]) (hd :: rest) = .ok (decide (r = 0)) (hd1 :: rest) := by
      have : xOp vEq (xCall 2 m__law_draw (xCons (xVar 0) (xCons (xC (.int 2)) xNil))) (xC (.int 0)) (some (.loc 0) :: v ++ [some (.int (a : Int))]) (hd :: rest) = .ok (.bl (decide (r = 0))) (hd1 :: rest) := xOp_ok d1 rfl rfl
      simp only [tV, this, Out.bind_ok]
      rfl
    have v9 : xVar 9 (some (.loc 0) :: v ++ [some (.int (a : Int))]) (hd1 :: rest) = .ok (.int (a : Int)) (hd1 :: rest) := by
      have : (some (D.loc 0) :: v ++ [some (.int (a : Int))])[9]? = some (some (.int (a : Int))) := by
        rw [List.getElem?_append_right (by simp [hv])]
        simp [hv]
      simp only [xVar, this]
    have okA : ∀ st, (It.mk it none).okAt st = true := fun st => rfl
    have hacc : (nats acc).length < szL := by simp only [nats, List.length_map, szL]; omega
    show ∃ l' hd', compL ⟨it, none⟩ _ _ _ (some (.loc 0) :: v ++ [y]) (.int (a : Int) :: nats l) (hd :: rest) (nats acc) = _ ∧ _
    by_cases h0 : r = 0
    · rw [decide_eq_true h0] at t1
      obtain ⟨l', hd', e, s1, H2⟩ := ih (acc ++ [a]) hd1 y H1 (by simp; omega) hv
      refine ⟨a :: l', hd', ?_, s1.cons₂ a, H2⟩
      have e1 : nats acc ++ [D.int (a : Int)] = nats (acc ++ [a]) := by simp [nats]
      simp only [compL, okA, if_true, g1, t1, v9, hacc, e1, e]
      simp
    · rw [decide_eq_false h0] at t1
      obtain ⟨l', hd', e, s1, H2⟩ := ih acc hd1 y H1 (by omega) hv
      refine ⟨l', hd', ?_, s1.cons a, H2⟩
      simp only [compL, okA, if_true, g1, t1, e]
theorem memD_nats (a : Nat) : ∀ l : List Nat, memD (.int (a : Int)) (nats l) = decide (a ∈ l)
  | [] => rfl
  | b :: l => by
    have h := memD_nats a l
    have e : (D.int (b : Int)).eqv (.int (a : Int)) = decide (b = a) := nat_eq b a
    simp only [memD, nats, List.map_cons, List.any_cons] at h ⊢
    rw [e, h]
    by_cases hb : b = a
    · subst hb; simp
    · have : ¬ a = b := fun z => hb z.symm
      simp [hb, this]
theorem notin_nats (st : Sto) (a : Nat) (l : List Nat) : vNotIn st (.int (a : Int)) (.lst (nats l)) = some (.bl (!decide (a ∈ l))) := by
  have f1 : (D.int (a : Int)).flat 50 = true := rfl
  have f2 := flatL_ints 50 l
  have e : inB st (.int (a : Int)) (.lst (nats l)) = (if (D.int (a : Int)).flat 50 && flatL 50 (nats l) then some (memD (.int (a : Int)) (nats l)) else none) := rfl
  unfold vNotIn
  rw [e, f1, f2, memD_nats]
  rfl
/-- what is told of a drawn term -/
structure Drawn (t : Tm) (deep : Nat) (free : List Nat) (p : Nat) : Prop where
  cl : t.cl deep = true
  on : t.once deep = true
  oc : ∀ j, j < deep → t.occ j ≤ free.count j
  le : t.sz ≤ 2 * p + 1
theorem cnt_split {mine free : List Nat} (hs : mine.Sublist free) (hn : free.Nodup) (j : Nat) : mine.count j + (free.filter fun n => !decide (n ∈ mine)).count j ≤ free.count j := by
  by_cases hj : j ∈ mine
  · have e : (free.filter fun n => !decide (n ∈ mine)).count j = 0 := List.count_eq_zero.mpr fun h => by
      have := (List.mem_filter.mp h).2
      simp [hj] at this
    rw [e]
    exact hs.count_le j
  · have e : mine.count j = 0 := List.count_eq_zero.mpr hj
    rw [e, Nat.zero_add]
    exact (List.filter_sublist).count_le j
theorem asg_eq {m : XE} {b : XS} {σ : Env} {st st1 : Sto} {d : D} {i : Nat} (h : m σ st = .ok d st1) : sSeq (sAsg m (gVar i)) b σ st = b (setV σ i d) st1 := asg_nx h rfl
theorem seq_eq {a b : XS} {σ σ1 : Env} {st st1 : Sto} (h : a σ st = .nx σ1 st1) : sSeq a b σ st = b σ1 st1 := sSeq_nx h
theorem sSeq_if {c : XT} {A B C : XS} {σ : Env} {st st1 : Sto} (h : c σ st = .ok true st1) : sSeq (sIf c A B) C σ st = sSeq A C σ st1 := by
  simp only [sSeq, sIf, h, if_true]
theorem ex_if {c : XT} {A B C : XS} {σ : Env} {st st1 rest : Sto} {P : Tm → Cell → Prop} (h : c σ st = .ok true st1) (hh : ∃ (t : Tm) (hd' : Cell), A σ st1 = .rt t.d (hd' :: rest) ∧ P t hd') :
    ∃ (t : Tm) (hd' : Cell), sSeq (sIf c A B) C σ st = .rt t.d (hd' :: rest) ∧ P t hd' := by
  obtain ⟨t, hd', e, r⟩ := hh
  exact ⟨t, hd', (sSeq_if h).trans (sSeq_rt e), r⟩
theorem term_ok : ∀ (n p deep : Nat) (free : List Nat) (hd : Cell) (rest : Sto), HandOk hd → stFx rest → p + 1 ≤ n → p ≤ 10 → (free ≠ [] ∨ 1 ≤ p) → free.Nodup → (∀ x ∈ free, x < deep) → free.length + p ≤ 100 →
    ∃ t hd', m__law_term n [.loc 0, .int deep, .lst (nats free), .int p] (hd :: rest) = .ok t.d (hd' :: rest) ∧ HandOk hd' ∧ Drawn t deep free p
  | 0, p, deep, free, hd, rest, _, _, h, _, _, _, _, _ => by omega
  | n + 1, p, deep, free, hd, rest, H, hr, hn, hp, hne, hnd, hlt, hlen => by
    have f0 : fxL (nats free) = true := nats_fx free
    -- the kind
    obtain ⟨r, hd1, d1, d2, d3, H1⟩ := drawC (σ := [some (.loc 0), some (.int deep), some (.lst (nats free)), some (.int p), none, none, none, none, none, none]) H hr rfl (mb := xC (.int 5)) (m := 5) rfl (by decide) (by decide)
    have B : ∃ t hd', (sSeq (sAsg (xCall 2 m__law_draw (xCons (xVar 0) (xCons (xC (.int 5)) xNil))) (gVar 4)) (sSeq (sIf (tAnd (tV (xOp vGt (xVar 3) (xC (.int 4)))) (tV (xOp vLt (xVar 4) (xC (.int 2)))))
 (sSeq (sAsg (xFrz (xComp [9] (iAny (xVar 2)) (gVar 9) (tV (xOp vEq (xCall 2 m__law_draw (xCons (xVar 0) (xCons (xC (.int 2)) xNil))) (xC (.int 0)))) (xVar 9))) (gVar 5))
 (sSeq (sPar [6, 7] (xCons (xFrz (xComp [9] (iAny (xVar 2)) (gVar 9) (tV (xOp vNotIn (xVar 9) (xVar 5))) (xVar 9))) (xCons (xOp vAdd (xC (.int 1)) (xCall 2 m__law_draw (xCons (xVar 0) (xCons (xOp vSub (xVar 3) (xC (.int 3))) xNil)))) xNil)))
 (sSeq (sAsg (xCall 4 (m__law_term n) (xCons (xVar 0) (xCons (xVar 1) (xCons (xVar 5) (xCons (xVar 7) xNil))))) (gVar 8))
 (sRet (xTup (xCons (xC (.str [117, 115, 101])) (xCons (xVar 8) (xCons (xCall 4 (m__law_term n) (xCons (xVar 0) (xCons (xVar 1) (xCons (xVar 6) (xCons (xOp vSub (xOp vSub (xVar 3) (xC (.int 1))) (xVar 7)) xNil))))) xNil))))))))
 sNext)
 (sSeq (sIf (tOr (tV (xOp vEq (xB vLen (xCons (xVar 2) xNil)) (xC (.int 0)))) (tAnd (tV (xOp vGt (xVar 3) (xC (.int 2)))) (tV (xOp vLt (xVar 4) (xC (.int 4))))))
 (sRet (xTup (xCons (xC (.str [102, 117, 110])) (xCons (xCall 4 (m__law_term n) (xCons (xVar 0) (xCons (xOp vAdd (xVar 1) (xC (.int 1))) (xCons (xFrz (xOpL lCat (xVar 2) (xFrz (xLst (xCons (xVar 1) xNil))))) (xCons (xOp vSub (xVar 3) (xC (.int 1))) xNil))))) xNil))))
 sNext)
 (sRet (xCall 2 m__law_some (xCons (xVar 0) (xCons (xVar 2) xNil))))))) [some (.loc 0), some (.int deep), some (.lst (nats free)), some (.int p), none, none, none, none, none, none] (hd :: rest) = .rt t.d (hd' :: rest) ∧ HandOk hd' ∧ Drawn t deep free p := by
      have ctU : tAnd (tV (xOp vGt (xVar 3) (xC (.int 4)))) (tV (xOp vLt (xVar 4) (xC (.int 2)))) [some (.loc 0), some (.int deep), some (.lst (nats free)), some (.int p), some (.int r), none, none, none, none, none] (hd1 :: rest) = .ok (decide ((4 : Int) < p) && decide (r < 2)) (hd1 :: rest) :=
        tAnd_bl (tCmp rfl rfl rfl) fun _ => tCmp rfl rfl rfl
      by_cases hU : (4 : Int) < p ∧ r < 2
      · rw [decide_eq_true hU.1, decide_eq_true hU.2] at ctU
        have hp5 : 5 ≤ p := by omega
        rw [asg_eq d1]
        show ∃ t hd', sSeq _ _ [some (.loc 0), some (.int deep), some (.lst (nats free)), some (.int p), some (.int r), none, none, none, none, none] (hd1 :: rest) = _ ∧ _
        refine ex_if (P := fun t hd' => HandOk hd' ∧ Drawn t deep free p) ctU ?_
        -- the first lot
        obtain ⟨mine, hd2, c1, sub, H2⟩ := comp_draw hr (v := [some (.int deep), some (.lst (nats free)), some (.int p), some (.int r), none, none, none, none]) (x9 := none) free [] hd1 none H1 (by simp; omega) rfl
        have e1 : xFrz (xComp [9] (iAny (xVar 2)) (gVar 9) (tV (xOp vEq (xCall 2 m__law_draw (xCons (xVar 0) (xCons (xC (.int 2)) xNil))) (xC (.int 0)))) (xVar 9)) [some (.loc 0), some (.int deep), some (.lst (nats free)), some (.int p), some (.int r), none, none, none, none, none] (hd1 :: rest) = .ok (.lst (nats mine)) (hd2 :: rest) := by
          refine frz_ok ?_
          have hi : iAny (xVar 2) [some (.loc 0), some (.int deep), some (.lst (nats free)), some (.int p), some (.int r), none, none, none, none, none] (hd1 :: rest) = .ok ⟨nats free, none⟩ (hd1 :: rest) := rfl
          unfold xComp
          rw [hi]
          exact c1
        rw [asg_eq e1]
        show ∃ t hd', sSeq _ _ [some (.loc 0), some (.int deep), some (.lst (nats free)), some (.int p), some (.int r), some (.lst (nats mine)), none, none, none, none] (hd2 :: rest) = _ ∧ _
        -- the other lot, a size
        have e2 : xFrz (xComp [9] (iAny (xVar 2)) (gVar 9) (tV (xOp vNotIn (xVar 9) (xVar 5))) (xVar 9)) [some (.loc 0), some (.int deep), some (.lst (nats free)), some (.int p), some (.int r), some (.lst (nats mine)), none, none, none, none] (hd2 :: rest) = .ok (.lst (nats (free.filter fun n => !decide (n ∈ mine)))) (hd2 :: rest) := by
          refine frz_ok ?_
          have q := xComp_filter (own := [9]) (i := iAny (xVar 2)) (g := gVar 9) (t := tV (xOp vNotIn (xVar 9) (xVar 5))) (e := xVar 9) (σ := [some (.loc 0), some (.int deep), some (.lst (nats free)), some (.int p), some (.int r), some (.lst (nats mine)), none, none, none, none]) (st := hd2 :: rest) (ds := nats free) (fun d => !memD d (nats mine)) id rfl (fun d hd => by
            obtain ⟨a, ha, rfl⟩ := List.mem_map.mp hd
            refine ⟨_, rfl, ?_, fun _ => rfl⟩
            have z := notin_nats (hd2 :: rest) a mine
            rw [← memD_nats] at z
            exact tCmp rfl rfl z) (by simp only [nats, List.length_map, szL]; omega)
          rw [q, List.map_id]
          have : (nats free).filter (fun d => !memD d (nats mine)) = nats (free.filter fun n => !decide (n ∈ mine)) := by
            unfold nats
            rw [List.filter_map]
            congr 1
            refine List.filter_congr fun a _ => ?_
            show (!memD (.int (a : Int)) (nats mine)) = _
            rw [memD_nats]
          rw [this]
        obtain ⟨r2, hd3, k1, k2, k3, H3⟩ := drawC (σ := [some (.loc 0), some (.int deep), some (.lst (nats free)), some (.int p), some (.int r), some (.lst (nats mine)), none, none, none, none]) H2 hr rfl (mb := xOp vSub (xVar 3) (xC (.int 3))) (m := (p : Int) - 3) rfl (by omega) (by omega)
        obtain ⟨s, rfl⟩ : ∃ s : Nat, r2 = (s : Int) := ⟨r2.toNat, by omega⟩
        have hp1 : sPar [6, 7] (xCons (xFrz (xComp [9] (iAny (xVar 2)) (gVar 9) (tV (xOp vNotIn (xVar 9) (xVar 5))) (xVar 9))) (xCons (xOp vAdd (xC (.int 1)) (xCall 2 m__law_draw (xCons (xVar 0) (xCons (xOp vSub (xVar 3) (xC (.int 3))) xNil)))) xNil)) [some (.loc 0), some (.int deep), some (.lst (nats free)), some (.int p), some (.int r), some (.lst (nats mine)), none, none, none, none] (hd2 :: rest) = .nx [some (.loc 0), some (.int deep), some (.lst (nats free)), some (.int p), some (.int r), some (.lst (nats mine)), some (.lst (nats (free.filter fun n => !decide (n ∈ mine)))), some (.int ((s + 1 : Nat) : Int)), none, none] (hd3 :: rest) := by
          have k4 : xOp vAdd (xC (.int 1)) (xCall 2 m__law_draw (xCons (xVar 0) (xCons (xOp vSub (xVar 3) (xC (.int 3))) xNil))) [some (.loc 0), some (.int deep), some (.lst (nats free)), some (.int p), some (.int r), some (.lst (nats mine)), none, none, none, none] (hd2 :: rest) = .ok (.int ((s + 1 : Nat) : Int)) (hd3 :: rest) := xOp_ok (x := .int 1) (y := .int (s : Int)) (st1 := hd2 :: rest) rfl k1 (by
            rw [vAdd_int]
            congr 2
            omega)
          simp only [sPar, xCons, xNil, e2, k4, Out.bind_ok]
          rfl
        rw [seq_eq hp1]
        -- the parts
        have sm : ∀ x ∈ mine, x < deep := fun x hx => hlt x (sub.subset hx)
        obtain ⟨t1, hd4, i1, H4, D1⟩ := term_ok n (s + 1) deep mine hd3 rest H3 hr (by omega) (by omega) (.inr (by omega)) (hnd.sublist sub) sm (by have := sub.length_le; omega)
        have c2 : xCall 4 (m__law_term n) (xCons (xVar 0) (xCons (xVar 1) (xCons (xVar 5) (xCons (xVar 7) xNil)))) [some (.loc 0), some (.int deep), some (.lst (nats free)), some (.int p), some (.int r), some (.lst (nats mine)), some (.lst (nats (free.filter fun n => !decide (n ∈ mine)))), some (.int ((s + 1 : Nat) : Int)), none, none] (hd3 :: rest) = .ok t1.d (hd4 :: rest) :=
          xCall_ok (st1 := hd3 :: rest) (gb := []) (ds := [.loc 0, .int deep, .lst (nats mine), .int ((s + 1 : Nat) : Int)]) rfl rfl (by rw [List.append_nil]; exact i1) rfl t1.fx (stFx_cons (hand_fx H4) hr)
        rw [asg_eq c2]
        show ∃ t hd', sRet _ [some (.loc 0), some (.int deep), some (.lst (nats free)), some (.int p), some (.int r), some (.lst (nats mine)), some (.lst (nats (free.filter fun n => !decide (n ∈ mine)))), some (.int ((s + 1 : Nat) : Int)), some t1.d, none] (hd4 :: rest) = _ ∧ _
        have sy : ∀ x ∈ free.filter (fun n => !decide (n ∈ mine)), x < deep := fun x hx => hlt x (List.mem_filter.mp hx).1
        obtain ⟨t2, hd5, i2, H5, D2⟩ := term_ok n (p - 2 - s) deep (free.filter fun n => !decide (n ∈ mine)) hd4 rest H4 hr (by omega) (by omega) (.inr (by omega)) (hnd.sublist List.filter_sublist) sy (by have := (List.filter_sublist (l := free) (p := fun n => !decide (n ∈ mine))).length_le; omega)
        have c3 : xCall 4 (m__law_term n) (xCons (xVar 0) (xCons (xVar 1) (xCons (xVar 6) (xCons (xOp vSub (xOp vSub (xVar 3) (xC (.int 1))) (xVar 7)) xNil)))) [some (.loc 0), some (.int deep), some (.lst (nats free)), some (.int p), some (.int r), some (.lst (nats mine)), some (.lst (nats (free.filter fun n => !decide (n ∈ mine)))), some (.int ((s + 1 : Nat) : Int)), some t1.d, none] (hd4 :: rest) = .ok t2.d (hd5 :: rest) := by
          refine xCall_ok (st1 := hd4 :: rest) (gb := []) (ds := [.loc 0, .int deep, .lst (nats (free.filter fun n => !decide (n ∈ mine))), .int ((p - 2 - s : Nat) : Int)]) ?_ rfl (by rw [List.append_nil]; exact i2) rfl t2.fx (stFx_cons (hand_fx H5) hr)
          have q : ((p : Int) - 1 - ((s + 1 : Nat) : Int)) = ((p - 2 - s : Nat) : Int) := by omega
          show Out.ok [D.loc 0, D.int deep, D.lst (nats (free.filter fun n => !decide (n ∈ mine))), D.int ((p : Int) - 1 - ((s + 1 : Nat) : Int))] _ = _
          rw [q]
        refine ⟨.a t1 t2, hd5, sRet_ok ?_, H5, ?_, ?_, ?_, ?_⟩
        · have q1 : xC (.str [117, 115, 101]) [some (.loc 0), some (.int deep), some (.lst (nats free)), some (.int p), some (.int r), some (.lst (nats mine)), some (.lst (nats (free.filter fun n => !decide (n ∈ mine)))), some (.int ((s + 1 : Nat) : Int)), some t1.d, none] (hd4 :: rest) = .ok (.str USE) (hd4 :: rest) := rfl
          have q2 : xVar 8 [some (.loc 0), some (.int deep), some (.lst (nats free)), some (.int p), some (.int r), some (.lst (nats mine)), some (.lst (nats (free.filter fun n => !decide (n ∈ mine)))), some (.int ((s + 1 : Nat) : Int)), some t1.d, none] (hd4 :: rest) = .ok t1.d (hd4 :: rest) := rfl
          generalize hm1 : xC (.str [117, 115, 101]) = m1 at q1 ⊢
          generalize hm2 : xVar 8 = m2 at q2 ⊢
          generalize hm3 : xCall 4 (m__law_term n) _ = m3 at c3 ⊢
          simp only [xTup, xCons, xNil, q1, q2, c3, Out.bind_ok]
          exact if_pos (show 3 ≤ szL by decide)
        · simp only [Tm.cl, D1.cl, D2.cl, Bool.and_self]
        · simp only [Tm.once, D1.on, D2.on, Bool.and_self]
        · intro j hj
          have a1 := D1.oc j hj
          have a2 := D2.oc j hj
          have a3 := cnt_split sub hnd j
          simp only [Tm.occ]
          omega
        · have a1 := D1.le
          have a2 := D2.le
          simp only [Tm.sz]
          omega
      · have hU' : (decide ((4 : Int) < p) && decide (r < 2)) = false := by
          rw [Bool.and_eq_false_iff]
          by_cases h1 : (4 : Int) < p
          · exact .inr (decide_eq_false fun h2 => hU ⟨h1, h2⟩)
          · exact .inl (decide_eq_false h1)
        rw [hU'] at ctU
        rw [asg_eq d1]
        show ∃ t hd', sSeq _ _ [some (.loc 0), some (.int deep), some (.lst (nats free)), some (.int p), some (.int r), none, none, none, none, none] (hd1 :: rest) = _ ∧ _
        rw [seq_eq (sIf_fn ctU)]
        have hlenE : xB vLen (xCons (xVar 2) xNil) [some (.loc 0), some (.int deep), some (.lst (nats free)), some (.int p), some (.int r), none, none, none, none, none] (hd1 :: rest) = .ok (.int (free.length : Nat)) (hd1 :: rest) := xB_ok (ds := [.lst (nats free)]) rfl (by rw [vLen_lst, List.length_map])
        have ct1 : tV (xOp vEq (xB vLen (xCons (xVar 2) xNil)) (xC (.int 0))) [some (.loc 0), some (.int deep), some (.lst (nats free)), some (.int p), some (.int r), none, none, none, none, none] (hd1 :: rest) = .ok (decide ((free.length : Int) = 0)) (hd1 :: rest) := tCmp hlenE rfl rfl
        have ct3 : tAnd (tV (xOp vGt (xVar 3) (xC (.int 2)))) (tV (xOp vLt (xVar 4) (xC (.int 4)))) [some (.loc 0), some (.int deep), some (.lst (nats free)), some (.int p), some (.int r), none, none, none, none, none] (hd1 :: rest) = .ok (decide ((2 : Int) < p) && decide (r < 4)) (hd1 :: rest) := tAnd_bl (tCmp rfl rfl rfl) fun _ => tCmp rfl rfl rfl
        have ct2 := tOr_bl ct1 fun _ => ct3
        by_cases hF : free = [] ∨ (2 : Int) < p ∧ r < 4
        · have q : (decide ((free.length : Int) = 0) || (decide ((2 : Int) < p) && decide (r < 4))) = true := by
            rcases hF with rfl | ⟨h1, h2⟩
            · rfl
            · rw [decide_eq_true h1, decide_eq_true h2]; simp
          rw [q] at ct2
          rw [sSeq_if ct2]
          have hp1 : 1 ≤ p := by
            rcases hF with h1 | h1
            · exact hne.resolve_left fun z => z h1
            · omega
          have hnew : (free ++ [deep]).Nodup := by
            rw [List.nodup_append]
            refine ⟨hnd, by simp, fun a ha b hb => ?_⟩
            have := hlt a ha
            simp at hb
            omega
          obtain ⟨u, hd2, i1, H2, D1⟩ := term_ok n (p - 1) (deep + 1) (free ++ [deep]) hd1 rest H1 hr (by omega) (by omega) (.inl (by simp)) hnew (fun x hx => by
            rcases List.mem_append.mp hx with h1 | h1
            · have := hlt x h1; omega
            · simp at h1; omega) (by simp; omega)
          have cc : xFrz (xOpL lCat (xVar 2) (xFrz (xLst (xCons (xVar 1) xNil)))) [some (.loc 0), some (.int deep), some (.lst (nats free)), some (.int p), some (.int r), none, none, none, none, none] (hd1 :: rest) = .ok (.lst (nats (free ++ [deep]))) (hd1 :: rest) := by
            have e0 : nats (free ++ [deep]) = nats free ++ [D.int (deep : Int)] := by simp [nats]
            rw [e0]
            exact cat_ok rfl rfl (by simp only [nats, List.length_map, List.length_cons, List.length_nil, szL]; omega)
          have c1 : xCall 4 (m__law_term n) (xCons (xVar 0) (xCons (xOp vAdd (xVar 1) (xC (.int 1))) (xCons (xFrz (xOpL lCat (xVar 2) (xFrz (xLst (xCons (xVar 1) xNil))))) (xCons (xOp vSub (xVar 3) (xC (.int 1))) xNil)))) [some (.loc 0), some (.int deep), some (.lst (nats free)), some (.int p), some (.int r), none, none, none, none, none] (hd1 :: rest) = .ok u.d (hd2 :: rest) := by
            refine xCall_ok (st1 := hd1 :: rest) (gb := []) (ds := [.loc 0, .int ((deep + 1 : Nat) : Int), .lst (nats (free ++ [deep])), .int ((p - 1 : Nat) : Int)]) ?_ rfl (by rw [List.append_nil]; exact i1) rfl u.fx (stFx_cons (hand_fx H2) hr)
            have a1 : xVar 0 [some (.loc 0), some (.int deep), some (.lst (nats free)), some (.int p), some (.int r), none, none, none, none, none] (hd1 :: rest) = .ok (.loc 0) (hd1 :: rest) := rfl
            have a2 : xOp vAdd (xVar 1) (xC (.int 1)) [some (.loc 0), some (.int deep), some (.lst (nats free)), some (.int p), some (.int r), none, none, none, none, none] (hd1 :: rest) = .ok (.int ((deep + 1 : Nat) : Int)) (hd1 :: rest) := rfl
            have a3 : xOp vSub (xVar 3) (xC (.int 1)) [some (.loc 0), some (.int deep), some (.lst (nats free)), some (.int p), some (.int r), none, none, none, none, none] (hd1 :: rest) = .ok (.int ((p - 1 : Nat) : Int)) (hd1 :: rest) := xOp_ok (x := .int p) (y := .int 1) rfl rfl (by
              rw [vSub_int]
              congr 2
              omega)
            simp only [xCons, xNil, a1, a2, a3, cc, Out.bind_ok]
          refine ⟨.l u, hd2, sSeq_rt (sRet_ok ?_), H2, ?_, ?_, ?_, ?_⟩
          · have q1 : xC (.str [102, 117, 110]) [some (.loc 0), some (.int deep), some (.lst (nats free)), some (.int p), some (.int r), none, none, none, none, none] (hd1 :: rest) = .ok (.str FUN) (hd1 :: rest) := rfl
            generalize hm1 : xC (.str [102, 117, 110]) = m1 at q1 ⊢
            generalize hm3 : xCall 4 (m__law_term n) _ = m3 at c1 ⊢
            simp only [xTup, xCons, xNil, q1, c1, Out.bind_ok]
            exact if_pos (show 2 ≤ szL by decide)
          · exact D1.cl
          · have a1 := D1.oc deep (by omega)
            have a2 : free.count deep = 0 := List.count_eq_zero.mpr fun h => by have := hlt deep h; omega
            rw [List.count_append, a2] at a1
            simp only [Tm.once, D1.on, Bool.and_true, decide_eq_true_eq]
            simpa using a1
          · intro j hj
            have a1 := D1.oc j (by omega)
            have a2 : [deep].count j = 0 := List.count_eq_zero.mpr fun h => by simp at h; omega
            rw [List.count_append, a2] at a1
            exact a1
          · have a1 := D1.le
            simp only [Tm.sz]
            omega
        · have q : (decide ((free.length : Int) = 0) || (decide ((2 : Int) < p) && decide (r < 4))) = false := by
            rw [Bool.or_eq_false_iff]
            refine ⟨decide_eq_false fun h => hF (.inl (List.length_eq_zero_iff.mp (by omega))), ?_⟩
            rw [Bool.and_eq_false_iff]
            by_cases h1 : (2 : Int) < p
            · exact .inr (decide_eq_false fun h2 => hF (.inr ⟨h1, h2⟩))
            · exact .inl (decide_eq_false h1)
          rw [q] at ct2
          rw [seq_eq (sIf_fn ct2)]
          have hne' : free ≠ [] := fun h => hF (.inl h)
          obtain ⟨x, hd2, s1, s2, H2⟩ := someC (σ := [some (.loc 0), some (.int deep), some (.lst (nats free)), some (.int p), some (.int r), none, none, none, none, none]) H1 hr rfl (mb := xVar 2) (xs := nats free) rfl (by simpa [nats] using hne') (by simp only [nats, List.length_map]; omega) f0
          obtain ⟨a, ha, rfl⟩ := List.mem_map.mp s2
          refine ⟨.v a, hd2, sRet_ok s1, H2, ?_, rfl, ?_, ?_⟩
          · simp only [Tm.cl, decide_eq_true_eq]
            exact hlt a ha
          · intro j hj
            simp only [Tm.occ]
            split
            · rename_i h
              subst h
              exact List.count_pos_iff.mpr ha
            · exact Nat.zero_le _
          · simp only [Tm.sz]
            omega
    obtain ⟨t, hd', e, H', Dr⟩ := B
    exact ⟨t, hd', mkDef_rt rfl e, H', Dr⟩
end Mi
end
section
set_option linter.all false
set_option autoImplicit false
set_option maxRecDepth 100000
namespace Mi
theorem sFor_at {i : XI} {g : XG} {b : XS} {σ : Env} {st st1 : Sto} {it : It} (h : i σ st = .ok it st1) : sFor i g b σ st = forL it g b it.ds σ st1 := by
  simp only [sFor, h]
theorem closed_ok {hd : Cell} {rest : Sto} (H : HandOk hd) (hr : stFx rest) : ∃ t hd', m__law_closed [.loc 0, .int 10] (hd :: rest) = .ok (Tm.d t) (hd' :: rest) ∧ HandOk hd' ∧ Aff t ∧ t.sz ≤ 12 := by
  have loop : ∀ (it : List D) (ds : List D) (hd : Cell) (x y : Option D), HandOk hd →
      (∃ t hd', forL ⟨it, none⟩ (gVar 2) (sSeq (sAsg (xCall 4 (m__law_term 16) (xCons (xVar 0) (xCons (xC (.int 0)) (xCons (xFrz (xLst xNil)) (xCons (xOp vAdd (xC (.int 2)) (xCall 2 m__law_draw (xCons (xVar 0) (xCons (xOp vSub (xVar 1) (xC (.int 1))) xNil)))) xNil))))) (gVar 3))
        (sIf (tV (xOp vLe (xCallP 1 (m__law_parts 30) (xCons (xVar 3) xNil)) (xOp vAdd (xVar 1) (xC (.int 2))))) (sRet (xVar 3)) sNext)) ds [some (.loc 0), some (.int 10), x, y] (hd :: rest) = .rt (Tm.d t) (hd' :: rest) ∧ HandOk hd' ∧ Aff t ∧ t.sz ≤ 12) ∨
      ∃ x' y' hd', forL ⟨it, none⟩ (gVar 2) (sSeq (sAsg (xCall 4 (m__law_term 16) (xCons (xVar 0) (xCons (xC (.int 0)) (xCons (xFrz (xLst xNil)) (xCons (xOp vAdd (xC (.int 2)) (xCall 2 m__law_draw (xCons (xVar 0) (xCons (xOp vSub (xVar 1) (xC (.int 1))) xNil)))) xNil))))) (gVar 3))
        (sIf (tV (xOp vLe (xCallP 1 (m__law_parts 30) (xCons (xVar 3) xNil)) (xOp vAdd (xVar 1) (xC (.int 2))))) (sRet (xVar 3)) sNext)) ds [some (.loc 0), some (.int 10), x, y] (hd :: rest) = .nx [some (.loc 0), some (.int 10), x', y'] (hd' :: rest) ∧ HandOk hd' := by
    intro it ds
    induction ds with
    | nil => intro hd x y H; exact .inr ⟨x, y, hd, rfl, H⟩
    | cons d ds ih =>
      intro hd x y H
      obtain ⟨r, hd1, d1, d2, d3, H1⟩ := drawC (σ := [some (.loc 0), some (.int 10), some d, y]) H hr rfl (mb := xOp vSub (xVar 1) (xC (.int 1))) (m := 9) rfl (by decide) (by decide)
      obtain ⟨s, rfl⟩ : ∃ s : Nat, r = (s : Int) := ⟨r.toNat, by omega⟩
      obtain ⟨t, hd2, e, H2, Dr⟩ := term_ok 16 (s + 2) 0 [] hd1 rest H1 hr (by omega) (by omega) (.inr (by omega)) List.nodup_nil (fun x hx => by cases hx) (by simp; omega)
      have hsz : t.sz ≤ 30 := by have := Dr.le; omega
      have c1 : xCall 4 (m__law_term 16) (xCons (xVar 0) (xCons (xC (.int 0)) (xCons (xFrz (xLst xNil)) (xCons (xOp vAdd (xC (.int 2)) (xCall 2 m__law_draw (xCons (xVar 0) (xCons (xOp vSub (xVar 1) (xC (.int 1))) xNil)))) xNil)))) [some (.loc 0), some (.int 10), some d, y] (hd :: rest) = .ok t.d (hd2 :: rest) := by
        refine xCall_ok (st1 := hd1 :: rest) (gb := []) (ds := [.loc 0, .int ((0 : Nat) : Int), .lst (nats []), .int ((s + 2 : Nat) : Int)]) ?_ rfl (by rw [List.append_nil]; exact e) rfl t.fx (stFx_cons (hand_fx H2) hr)
        have a0 : xVar 0 [some (.loc 0), some (.int 10), some d, y] (hd :: rest) = .ok (.loc 0) (hd :: rest) := rfl
        have a1 : xC (.int 0) [some (.loc 0), some (.int 10), some d, y] (hd :: rest) = .ok (.int ((0 : Nat) : Int)) (hd :: rest) := rfl
        have a2 : xFrz (xLst xNil) [some (.loc 0), some (.int 10), some d, y] (hd :: rest) = .ok (.lst (nats [])) (hd :: rest) := rfl
        have a3 : xOp vAdd (xC (.int 2)) (xCall 2 m__law_draw (xCons (xVar 0) (xCons (xOp vSub (xVar 1) (xC (.int 1))) xNil))) [some (.loc 0), some (.int 10), some d, y] (hd :: rest) = .ok (.int ((s + 2 : Nat) : Int)) (hd1 :: rest) := xOp_ok (x := .int 2) (y := .int (s : Int)) (st1 := hd :: rest) rfl d1 (by
          rw [vAdd_int]
          congr 2
          omega)
        generalize xC (.int 0) = m1 at a1 ⊢
        generalize xFrz (xLst xNil) = m2 at a2 ⊢
        generalize xOp vAdd (xC (.int 2)) (xCall 2 m__law_draw (xCons (xVar 0) (xCons (xOp vSub (xVar 1) (xC (.int 1))) xNil))) = m3 at a3 ⊢
        simp only [xCons, xNil, a0, a1, a2, a3, Out.bind_ok]
      have c2 : xCallP 1 (m__law_parts 30) (xCons (xVar 3) xNil) [some (.loc 0), some (.int 10), some d, some t.d] (hd2 :: rest) = .ok (.int t.sz) (hd2 :: rest) := callP (ds := [t.d]) rfl rfl (by simp [fxL, t.fx]) (lparts_ok 30 t hsz) rfl
      have c3 : tV (xOp vLe (xCallP 1 (m__law_parts 30) (xCons (xVar 3) xNil)) (xOp vAdd (xVar 1) (xC (.int 2)))) [some (.loc 0), some (.int 10), some d, some t.d] (hd2 :: rest) = .ok (decide ((t.sz : Int) ≤ 12)) (hd2 :: rest) := tCmp c2 (show xOp vAdd (xVar 1) (xC (.int 2)) [some (.loc 0), some (.int 10), some d, some t.d] (hd2 :: rest) = .ok (.int 12) (hd2 :: rest) from rfl) (by simp [vLe])
      have g1 : gVar 2 d [some (.loc 0), some (.int 10), x, y] (hd :: rest) = some ([some (.loc 0), some (.int 10), some d, y], hd :: rest) := rfl
      have ok : ∀ st, (It.mk it none).okAt st = true := fun _ => rfl
      have b1 : sAsg (xCall 4 (m__law_term 16) (xCons (xVar 0) (xCons (xC (.int 0)) (xCons (xFrz (xLst xNil)) (xCons (xOp vAdd (xC (.int 2)) (xCall 2 m__law_draw (xCons (xVar 0) (xCons (xOp vSub (xVar 1) (xC (.int 1))) xNil)))) xNil))))) (gVar 3) [some (.loc 0), some (.int 10), some d, y] (hd :: rest) = .nx [some (.loc 0), some (.int 10), some d, some t.d] (hd2 :: rest) := sAsg_var c1
      by_cases hs : (t.sz : Int) ≤ 12
      · rw [decide_eq_true hs] at c3
        refine .inl ⟨t, hd2, ?_, H2, ⟨Dr.cl, Dr.on, hsz⟩, by omega⟩
        have b2 := sIf_t (A := sRet (xVar 3)) (B := sNext) c3
        have b3 : sRet (xVar 3) [some (.loc 0), some (.int 10), some d, some t.d] (hd2 :: rest) = .rt t.d (hd2 :: rest) := rfl
        rw [b3] at b2
        simp only [forL, ok, if_true, g1, seq_eq b1, b2]
      · rw [decide_eq_false hs] at c3
        have b2 := sIf_fn (A := sRet (xVar 3)) c3
        rcases ih hd2 (some d) (some t.d) H2 with ⟨t', hd', q, r⟩ | ⟨x', y', hd', q, r⟩
        · refine .inl ⟨t', hd', ?_, r⟩
          simp only [forL, ok, if_true, g1, seq_eq b1, b2]
          exact q
        · refine .inr ⟨x', y', hd', ?_, r⟩
          simp only [forL, ok, if_true, g1, seq_eq b1, b2]
          exact q
  have hi : iRange1 (xCons (xC (.int 5)) xNil) [some (.loc 0), some (.int 10), none, none] (hd :: rest) = .ok ⟨rng 0 5, none⟩ (hd :: rest) := rfl
  have hf := sFor_at (g := gVar 2) (b := (sSeq (sAsg (xCall 4 (m__law_term 16) (xCons (xVar 0) (xCons (xC (.int 0)) (xCons (xFrz (xLst xNil)) (xCons (xOp vAdd (xC (.int 2)) (xCall 2 m__law_draw (xCons (xVar 0) (xCons (xOp vSub (xVar 1) (xC (.int 1))) xNil)))) xNil))))) (gVar 3))
        (sIf (tV (xOp vLe (xCallP 1 (m__law_parts 30) (xCons (xVar 3) xNil)) (xOp vAdd (xVar 1) (xC (.int 2))))) (sRet (xVar 3)) sNext))) hi
  rcases loop (rng 0 5) (rng 0 5) hd none none H with ⟨t, hd', q, r⟩ | ⟨x', y', hd', q, H'⟩
  · refine ⟨t, hd', mkDef_rt rfl (sSeq_rt ?_), r⟩
    rw [q] at hf
    exact hf
  · refine ⟨.a (.l (.l (.v 1))) (.l (.v 0)), hd', mkDef_rt rfl ?_, H', ⟨rfl, rfl, by decide⟩, by decide⟩
    rw [q] at hf
    show sSeq _ _ [some (.loc 0), some (.int 10), none, none] (hd :: rest) = _
    rw [sSeq_nx hf]
    rfl
end Mi
end
section
set_option linter.all false
set_option autoImplicit false
set_option maxRecDepth 100000
namespace Mi
theorem cut_take (xs : List D) (t : Int) (h : 0 ≤ t) : cutL xs none (some t) = xs.take t.toNat := by
  have h' : ¬ t < 0 := by omega
  simp only [cutL, sIx, h', if_false, List.drop_zero, Nat.sub_zero]
  rw [List.take_eq_take_iff]
  omega
theorem scr_cut (st : Sto) (xs : List D) : vSl st (.scr xs) none (some 63) = some (.lst (xs.take 63)) := by
  simp only [vSl, cut_take _ _ (show (0 : Int) ≤ 63 by omega)]
  rfl
theorem xLive_ok {m : XL} {σ : Env} {st st1 : Sto} {ds : List D} (h : m σ st = .ok ds st1) : xLive m σ st = .ok (.loc st1.length) (st1 ++ [.lst ds]) := by
  simp only [xLive, h, Out.bind_ok]
def absI (i : Int) : Int := if i < 0 then -i else i
theorem hand_ok (ns : List Int) : ∃ hd, m__law_hand [.scr (ns.map .int)] [] = .ok (.loc 0) [hd] ∧ HandOk hd := by
  have hit : iAny (xSl (xVar 0) oNone (oSome (xC (.int 63)))) [some (.scr (ns.map .int)), none, none] [] = .ok ⟨(ns.take 63).map .int, none⟩ [] := by
    simp -implicitDefEqProofs only [iAny, xSl, oNone, oSome, xC, xVar, List.getElem?_cons_zero, Out.bind_ok, scr_cut, ofOpt_some, itOf, List.map_take]
  have hl : (ns.take 63).length ≤ 63 := by rw [List.length_take]; omega
  have c1 := xComp_map (own := [2]) (g := gVar 2) (e := xB vAbs (xCons (xB vInt (xCons (xVar 2) xNil)) xNil)) (fun d => match d with | .int i => .int (absI i) | _ => .non) hit (fun d hd => by
    obtain ⟨i, hi, rfl⟩ := List.mem_map.mp hd
    exact ⟨_, rfl, rfl⟩) (by rw [List.length_map]; unfold szL; omega)
  have c2 : ((ns.take 63).map D.int).map (fun d => match d with | .int i => D.int (absI i) | _ => D.non) = ((ns.take 63).map absI).map D.int := by
    rw [List.map_map, List.map_map]
    rfl
  rw [c2] at c1
  have z5 : (5 : Nat) ≤ szL := by decide
  have hv : ∀ st, vLen st [.lst (((ns.take 63).map absI).map .int)] = some (.int (ns.take 63).length) := fun st => by rw [vLen_lst, List.length_map, List.length_map]
  have hmul : ∀ st (x : Int), vMul st (.int 5) (.int x) = some (.int (5 * x)) := fun st x => vMul_l _ _ _ (by decide)
  refine ⟨handC ((ns.take 63).map absI) 0 0 (83 + 5 * (ns.take 63).length) 0, mkDef_rt (b := sSeq _ (sRet _)) rfl ?_, _, 0, 0, _, 0, by omega, rfl⟩
  show sSeq _ _ [some (.scr (ns.map .int)), none, none] [] = _
  have s1 : sAsg (xFrz (xComp [2] (iAny (xSl (xVar 0) oNone (oSome (xC (.int 63))))) (gVar 2) tTrue (xB vAbs (xCons (xB vInt (xCons (xVar 2) xNil)) xNil)))) (gVar 1) [some (.scr (ns.map .int)), none, none] [] = .nx [some (.scr (ns.map .int)), some (.lst (((ns.take 63).map absI).map .int)), none] [] := by
    refine (sAsg_var (d := .lst (((ns.take 63).map absI).map .int)) (st1 := []) ?_).trans rfl
    simp only [xFrz, c1, Out.bind_ok]
  rw [sSeq_nx s1]
  refine sRet_ok ?_
  refine (xLive_ok (ds := [.lst (((ns.take 63).map absI).map .int), .int 0, .int 0, .int (83 + 5 * (ns.take 63).length), .int 0]) (st1 := []) ?_).trans rfl
  simp -implicitDefEqProofs only [mkDef, startV, sSeq, sIf, tAnd, tV, tNot, tOr, xOp, xUn, xVar, xC, xB, xCons, xNil, xTup, sAsg, gVar, setV, sRet, sNext, Out.bind_ok, ofOpt_some, ofOpt_none, List.length_cons, List.length_nil, List.map_cons, List.map_nil, List.getElem?_cons_zero, List.getElem?_cons_succ, List.cons_append, List.nil_append, List.set_cons_zero, List.set_cons_succ, Option.bind_some, Option.map_some, truth, if_true, if_false, Bool.false_eq_true, decide_eq_true_eq, Nat.reduceAdd, Nat.reduceSub, List.replicate_succ, List.replicate_zero, decide_true, decide_false, xAnd, xOr, xNot, xIf, xFrz, xLst, xBL, xBD, xFrzD, xLive, xLiveD, xCallP, pureL, D.pure, sDrop, sPar, gTup, gsCons, gsNil, sRetN, xFz, xSl, oNone, oSome, wipeV, iAny, itOf, seqOf, lstOf, and_self, and_true, true_and, Bool.and_self, Bool.and_true, Bool.true_and, List.zip_cons_cons, List.zip_nil_left, List.foldl_cons, List.foldl_nil, vAdd_int, vSub_int, vEq_int, vLt_int, vGt_int, vGe_int, vInt_int, Bool.not_true, Bool.not_false, hv, hmul, z5]
end Mi
end
section
set_option linter.all false
set_option autoImplicit false
set_option maxRecDepth 100000
namespace Mi
/-- all terms, as the program goes through them -/
def tw : Nat → Nat → Nat → List Tm
  | 0, _, _ => []
  | n + 1, s, k => if s = 1 then (List.range k).map Tm.v else
    (tw n (s - 1) (k + 1)).map Tm.l ++ (List.range (s - 2)).flatMap fun i => (tw n (i + 1) k).flatMap fun o => (tw n (s - 2 - i) k).map fun t => Tm.a o t
def toldT (s : Nat) : List Tm := (tw 8 s 0).filter fun t => t.once 0
def isTold (s : Nat) : Bool := match m_all_terms [.int s] [] with
  | .ok (.loc 0) (.lst ds :: r) => sameL ds (tms (toldT s))
  | _ => false
def ev : Nat → Nat → Nat → List Nat → List (Tm × List Nat)
  | 0, _, _, _ => []
  | n + 1, s, k, free => if s = 1 then free.map fun n => (Tm.v n, [n]) else
    ((ev n (s - 1) (k + 1) (free ++ [k])).map fun p => (Tm.l p.1, p.2.filter fun m => m != k)) ++ (List.range (s - 2)).flatMap fun i => (ev n (i + 1) k free).flatMap fun p => (ev n (s - 2 - i) k (free.filter fun m => !p.2.contains m)).map fun q => (Tm.a p.1 q.1, p.2 ++ q.2)
def evD (l : List (Tm × List Nat)) : List D := l.map fun p => .tup [p.1.d, .tup (p.2.map fun (m : Nat) => D.int m)]
def isDue (s : Nat) : Bool := match m__law_every 8 [.int s, .int 0, .tup []] [] with
  | .ok (.lst ds) r => sameL ds (evD (ev 8 s 0 []))
  | _ => false
theorem isTold_all : (List.range 7).all (fun s => isTold (s + 1)) = true := by decide +kernel
theorem isDue_all : (List.range 7).all (fun s => isDue (s + 1)) = true := by decide +kernel
theorem isPerm_all : (List.range 7).all (fun s => (toldT (s + 1)).isPerm ((ev 8 (s + 1) 0 []).map (·.1))) = true := by decide +kernel
theorem aff_all : (List.range 7).all (fun s => (toldT (s + 1)).all fun t => t.cl 0 && t.once 0 && decide (t.sz ≤ 7)) = true := by decide +kernel
end Mi
end
section
set_option linter.all false
set_option autoImplicit false
set_option maxRecDepth 100000
namespace Mi
def dg (n : Nat) : List Nat := (toString (n : Int)).toList.map Char.toNat
def dgB (c : Nat) : Bool := decide (48 ≤ c) && decide (c ≤ 57)
def undg (l : List Nat) : Nat := l.foldl (fun a c => 10 * a + (c - 48)) 0
theorem dg_all : (List.range 100).all (fun n => (dg n).all dgB && undg (dg n) == n && !(dg n).isEmpty) = true := by decide +kernel
theorem dg_fact {n : Nat} (h : n < 100) : (dg n).all dgB = true ∧ undg (dg n) = n ∧ dg n ≠ [] := by
  have := List.all_eq_true.mp dg_all n (List.mem_range.mpr h)
  simp only [Bool.and_eq_true, beq_iff_eq, Bool.not_eq_true'] at this
  exact ⟨this.1.1, this.1.2, fun e => by rw [e] at this; simp at this⟩
/-- nothing that begins with a digit -/
def nd (r : List Nat) : Prop := ∀ c, r.head? = some c → dgB c = false
theorem all_split : ∀ (a b r1 r2 : List Nat), a.all dgB = true → b.all dgB = true → nd r1 → nd r2 → a ++ r1 = b ++ r2 → a = b ∧ r1 = r2
  | [], [], r1, r2, _, _, _, _, h => ⟨rfl, h⟩
  | [], c :: b, r1, r2, _, hb, h1, _, h => by
    simp only [List.nil_append, List.cons_append] at h
    simp only [List.all_cons, Bool.and_eq_true] at hb
    have := h1 c (by rw [h]; rfl)
    rw [this] at hb
    exact absurd hb.1 (by simp)
  | c :: a, [], r1, r2, ha, _, _, h2, h => by
    simp only [List.nil_append, List.cons_append] at h
    simp only [List.all_cons, Bool.and_eq_true] at ha
    have := h2 c (by rw [← h]; rfl)
    rw [this] at ha
    exact absurd ha.1 (by simp)
  | c :: a, d :: b, r1, r2, ha, hb, h1, h2, h => by
    simp only [List.cons_append, List.cons.injEq] at h
    simp only [List.all_cons, Bool.and_eq_true] at ha hb
    obtain ⟨e, e2⟩ := all_split a b r1 r2 ha.2 hb.2 h1 h2 h.2
    exact ⟨by rw [h.1, e], e2⟩
theorem dg_split {n m : Nat} {r1 r2 : List Nat} (hn : n < 100) (hm : m < 100) (h1 : nd r1) (h2 : nd r2) (h : dg n ++ r1 = dg m ++ r2) : n = m ∧ r1 = r2 := by
  obtain ⟨a1, a2, _⟩ := dg_fact hn
  obtain ⟨b1, b2, _⟩ := dg_fact hm
  obtain ⟨e, e2⟩ := all_split _ _ _ _ a1 b1 h1 h2 h
  exact ⟨by rw [← a2, ← b2, e], e2⟩
namespace Tm
def txt : Tm → Nat → List Nat
  | v n, _ => 120 :: dg n
  | l t, k => 92 :: 120 :: (dg k ++ (46 :: 32 :: t.txt (k + 1)))
  | a s t, k => (if s.isL then 40 :: (s.txt k ++ [41]) else s.txt k) ++ (32 :: (if t.isV then t.txt k else 40 :: (t.txt k ++ [41])))
def hdT : Tm → Tm
  | a s _ => s.hdT
  | t => t
def ar : Tm → List Tm
  | a s t => s.ar ++ [t]
  | _ => []
def bd : Tm → Bool
  | v n => decide (n < 100)
  | l t => t.bd
  | a s t => s.bd && t.bd
theorem cl_bd : ∀ (t : Tm) (k : Nat), t.cl k = true → k + t.sz ≤ 100 → t.bd = true
  | v n, k, h, hk => by
    simp only [cl, decide_eq_true_eq] at h
    simp only [sz] at hk
    simp only [bd, decide_eq_true_eq]
    omega
  | l t, k, h, hk => by
    simp only [sz] at hk
    exact cl_bd t (k + 1) h (by omega)
  | a s t, k, h, hk => by
    simp only [cl, Bool.and_eq_true] at h
    simp only [sz] at hk
    simp only [bd, cl_bd s k h.1 (by omega), cl_bd t k h.2 (by omega), Bool.and_self]
def isA : Tm → Bool
  | a _ _ => true
  | _ => false
theorem back : ∀ t : Tm, t = t.ar.foldl a t.hdT
  | v n => rfl
  | l t => rfl
  | a s t => by
    simp only [ar, hdT, List.foldl_append, List.foldl_cons, List.foldl_nil]
    rw [← back s]
/-- an argument's text -/
def qx (t : Tm) (k : Nat) : List Nat := if t.isV then t.txt k else 40 :: (t.txt k ++ [41])
def hx (t : Tm) (k : Nat) : List Nat := if t.isL then 40 :: (t.txt k ++ [41]) else t.txt k
end Tm
def aq : List Tm → Nat → List Nat
  | [], _ => []
  | u :: us, k => 32 :: (u.qx k ++ aq us k)
theorem aq_app : ∀ (us ws : List Tm) (k : Nat), aq (us ++ ws) k = aq us k ++ aq ws k
  | [], ws, k => rfl
  | u :: us, ws, k => by simp [aq, aq_app us ws k]
namespace Tm
theorem spine : ∀ (t : Tm) (k : Nat), t.isL = false → t.txt k = t.hdT.hx k ++ aq t.ar k
  | v n, k, _ => by simp [txt, hdT, hx, ar, aq, isL]
  | l t, k, h => by simp [isL] at h
  | a s t, k, _ => by
    have e : (a s t).txt k = s.hx k ++ (32 :: t.qx k) := rfl
    rw [e]
    simp only [hdT, ar, aq_app]
    by_cases hs : s.isL = true
    · cases s with
      | l b => simp [hdT, ar, aq]
      | v n => simp [isL] at hs
      | a p q => simp [isL] at hs
    · have hs' : s.isL = false := by simpa using hs
      have e2 : s.hx k = s.txt k := by simp [hx, hs']
      rw [e2, spine s k hs']
      simp [aq]
theorem hdT_notA : ∀ t : Tm, t.hdT.isA = false
  | v n => rfl
  | l t => rfl
  | a s t => hdT_notA s
theorem hdT_sz : ∀ t : Tm, t.hdT.sz ≤ t.sz ∧ (t.isA = true → t.hdT.sz < t.sz)
  | v n => ⟨Nat.le_refl _, fun h => by simp [isA] at h⟩
  | l t => ⟨Nat.le_refl _, fun h => by simp [isA] at h⟩
  | a s t => by
    have := (hdT_sz s).1
    simp only [hdT, sz]
    exact ⟨by omega, fun _ => by omega⟩
theorem ar_sz : ∀ (t u : Tm), u ∈ t.ar → u.sz < t.sz
  | v n, u, h => by simp [ar] at h
  | l t, u, h => by simp [ar] at h
  | a s t, u, h => by
    simp only [ar, List.mem_append, List.mem_singleton] at h
    simp only [sz]
    rcases h with h | rfl
    · have := ar_sz s u h; omega
    · omega
theorem ar_bd : ∀ (t : Tm), t.bd = true → t.hdT.bd = true ∧ ∀ u ∈ t.ar, u.bd = true
  | v n, h => ⟨h, fun u hu => by simp [ar] at hu⟩
  | l t, h => ⟨h, fun u hu => by simp [ar] at hu⟩
  | a s t, h => by
    simp only [bd, Bool.and_eq_true] at h
    obtain ⟨h1, h2⟩ := ar_bd s h.1
    refine ⟨h1, fun u hu => ?_⟩
    simp only [ar, List.mem_append, List.mem_singleton] at hu
    rcases hu with hu | rfl
    · exact h2 u hu
    · exact h.2
end Tm
/-- an end: nothing, or a closing sign -/
def ok41 (r : List Nat) : Prop := r = [] ∨ ∃ r', r = 41 :: r'
theorem ok41.nd {r : List Nat} (h : ok41 r) : nd r := fun c hc => by
  rcases h with rfl | ⟨r', rfl⟩
  · simp at hc
  · simp at hc; subst hc; rfl
theorem nd_aq (us : List Tm) (k : Nat) {r : List Nat} (h : nd r) : nd (aq us k ++ r) := fun c hc => by
  cases us with
  | nil => exact h c hc
  | cons u us => simp [aq] at hc; subst hc; rfl
/-- what is to be shown, for terms no greater than so much -/
def InjT (N : Nat) : Prop := ∀ (s t : Tm) (k : Nat) (r1 r2 : List Nat), s.sz ≤ N → s.bd = true → t.bd = true → ok41 r1 → ok41 r2 → s.txt k ++ r1 = t.txt k ++ r2 → s = t ∧ r1 = r2
theorem inj_q {N : Nat} (I : InjT N) {u w : Tm} {k : Nat} {r1 r2 : List Nat} (hu : u.sz ≤ N) (bu : u.bd = true) (bw : w.bd = true) (h1 : nd r1) (h2 : nd r2) (h : u.qx k ++ r1 = w.qx k ++ r2) : u = w ∧ r1 = r2 := by
  by_cases a : u.isV = true <;> by_cases b : w.isV = true
  · cases u <;> simp [Tm.isV] at a
    cases w <;> simp [Tm.isV] at b
    rename_i n m
    simp only [Tm.qx, Tm.isV, if_true, Tm.txt, List.cons_append, List.cons.injEq, true_and] at h
    simp only [Tm.bd, decide_eq_true_eq] at bu bw
    obtain ⟨rfl, e⟩ := dg_split bu bw h1 h2 h
    exact ⟨rfl, e⟩
  · exfalso
    have e : w.qx k = 40 :: (w.txt k ++ [41]) := if_neg b
    rw [e] at h
    cases u <;> simp [Tm.isV] at a
    simp only [Tm.qx, Tm.isV, if_true, Tm.txt, List.cons_append, List.cons.injEq] at h
    exact absurd h.1 (by decide)
  · exfalso
    have e : u.qx k = 40 :: (u.txt k ++ [41]) := if_neg a
    rw [e] at h
    cases w <;> simp [Tm.isV] at b
    simp only [Tm.qx, Tm.isV, if_true, Tm.txt, List.cons_append, List.cons.injEq] at h
    exact absurd h.1 (by decide)
  · simp only [Tm.qx, a, b, Bool.false_eq_true, if_false, List.cons_append, List.append_assoc, List.cons.injEq, true_and, List.nil_append] at h
    obtain ⟨e, e2⟩ := I u w k _ _ hu bu bw (.inr ⟨_, rfl⟩) (.inr ⟨_, rfl⟩) h
    simp only [List.cons.injEq, true_and] at e2
    exact ⟨e, e2⟩
theorem inj_h {N : Nat} (I : InjT N) {u w : Tm} {k : Nat} {r1 r2 : List Nat} (hu : u.isL = true → u.sz ≤ N) (nu : u.isA = false) (nw : w.isA = false) (bu : u.bd = true) (bw : w.bd = true) (h1 : nd r1) (h2 : nd r2) (h : u.hx k ++ r1 = w.hx k ++ r2) : u = w ∧ r1 = r2 := by
  cases u with
  | a p q => simp [Tm.isA] at nu
  | v n =>
    cases w with
    | a p q => simp [Tm.isA] at nw
    | v m =>
      simp only [Tm.hx, Tm.isL, Bool.false_eq_true, if_false, Tm.txt, List.cons_append, List.cons.injEq, true_and] at h
      simp only [Tm.bd, decide_eq_true_eq] at bu bw
      obtain ⟨rfl, e⟩ := dg_split bu bw h1 h2 h
      exact ⟨rfl, e⟩
    | l b =>
      exfalso
      simp only [Tm.hx, Tm.isL, Bool.false_eq_true, if_false, if_true, Tm.txt, List.cons_append, List.cons.injEq] at h
      exact absurd h.1 (by decide)
  | l c =>
    cases w with
    | a p q => simp [Tm.isA] at nw
    | v m =>
      exfalso
      simp only [Tm.hx, Tm.isL, Bool.false_eq_true, if_false, if_true, Tm.txt, List.cons_append, List.cons.injEq] at h
      exact absurd h.1 (by decide)
    | l b =>
      have h' : (Tm.l c).txt k ++ (41 :: r1) = (Tm.l b).txt k ++ (41 :: r2) := by
        simp only [Tm.hx, Tm.isL, if_true, List.cons_append, List.append_assoc, List.cons.injEq, true_and, List.nil_append] at h
        exact h
      obtain ⟨e, e2⟩ := I _ _ k _ _ (hu rfl) bu bw (.inr ⟨_, rfl⟩) (.inr ⟨_, rfl⟩) h'
      simp only [List.cons.injEq, true_and] at e2
      exact ⟨e, e2⟩
theorem inj_args {N : Nat} (I : InjT N) {k : Nat} {r1 r2 : List Nat} (h1 : ok41 r1) (h2 : ok41 r2) : ∀ (us ws : List Tm), (∀ u ∈ us, u.sz ≤ N ∧ u.bd = true) → (∀ w ∈ ws, w.bd = true) → aq us k ++ r1 = aq ws k ++ r2 → us = ws ∧ r1 = r2
  | [], [], _, _, h => ⟨rfl, h⟩
  | [], w :: ws, _, _, h => by
    exfalso
    simp only [aq, List.nil_append, List.cons_append] at h
    rcases h1 with rfl | ⟨r', rfl⟩
    · cases h
    · simp only [List.cons.injEq] at h
      exact absurd h.1 (by decide)
  | u :: us, [], _, _, h => by
    exfalso
    simp only [aq, List.nil_append, List.cons_append] at h
    rcases h2 with rfl | ⟨r', rfl⟩
    · cases h
    · simp only [List.cons.injEq] at h
      exact absurd h.1 (by decide)
  | u :: us, w :: ws, hu, hw, h => by
    simp only [aq, List.cons_append, List.append_assoc, List.cons.injEq, true_and] at h
    obtain ⟨e, e2⟩ := inj_q I (hu u List.mem_cons_self).1 (hu u List.mem_cons_self).2 (hw w List.mem_cons_self) (nd_aq us k h1.nd) (nd_aq ws k h2.nd) h
    obtain ⟨e3, e4⟩ := inj_args I h1 h2 us ws (fun x hx => hu x (List.mem_cons_of_mem _ hx)) (fun x hx => hw x (List.mem_cons_of_mem _ hx)) e2
    exact ⟨by rw [e, e3], e4⟩
theorem hx_head (t : Tm) (k : Nat) (h : t.isA = false) (r : List Nat) : ∃ c r', t.hx k ++ r = c :: r' ∧ c ≠ 92 := by
  cases t with
  | a s t => simp [Tm.isA] at h
  | v n => exact ⟨120, dg n ++ r, rfl, by decide⟩
  | l t => exact ⟨40, ((Tm.l t).txt k ++ [41]) ++ r, rfl, by decide⟩
theorem inj_t : ∀ N, InjT N
  | 0 => fun s t k r1 r2 hs _ _ _ _ _ => by have := s.pos; omega
  | N + 1 => fun s t k r1 r2 hs bs bt h1 h2 h => by
    have I := inj_t N
    by_cases a : s.isL = true <;> by_cases b : t.isL = true
    · cases s <;> simp [Tm.isL] at a
      cases t <;> simp [Tm.isL] at b
      rename_i s t
      simp only [Tm.txt, List.cons_append, List.append_assoc, List.cons.injEq, true_and, List.append_cancel_left_eq] at h
      simp only [Tm.sz] at hs
      obtain ⟨rfl, e⟩ := I s t (k + 1) r1 r2 (by omega) bs bt h1 h2 h
      exact ⟨rfl, e⟩
    · exfalso
      cases s <;> simp [Tm.isL] at a
      rw [Tm.spine t k (by simpa using b), List.append_assoc] at h
      obtain ⟨c, r', e, hc⟩ := hx_head t.hdT k t.hdT_notA (aq t.ar k ++ r2)
      rw [e] at h
      simp only [Tm.txt, List.cons_append, List.cons.injEq] at h
      exact hc h.1.symm
    · exfalso
      cases t <;> simp [Tm.isL] at b
      rw [Tm.spine s k (by simpa using a), List.append_assoc] at h
      obtain ⟨c, r', e, hc⟩ := hx_head s.hdT k s.hdT_notA (aq s.ar k ++ r1)
      rw [e] at h
      simp only [Tm.txt, List.cons_append, List.cons.injEq] at h
      exact hc h.1
    · have a' : s.isL = false := by simpa using a
      have b' : t.isL = false := by simpa using b
      rw [Tm.spine s k a', Tm.spine t k b', List.append_assoc, List.append_assoc] at h
      obtain ⟨p1, p2⟩ := s.ar_bd bs
      obtain ⟨q1, q2⟩ := t.ar_bd bt
      have hh : s.hdT.isL = true → s.hdT.sz ≤ N := fun z => by
        cases s with
        | v n => simp [Tm.hdT, Tm.isL] at z
        | l u => simp [Tm.isL] at a'
        | a u w => have := ((Tm.a u w).hdT_sz).2 rfl; omega
      obtain ⟨e1, e2⟩ := inj_h I hh s.hdT_notA t.hdT_notA p1 q1 (nd_aq s.ar k h1.nd) (nd_aq t.ar k h2.nd) h
      obtain ⟨e3, e4⟩ := inj_args I h1 h2 s.ar t.ar (fun u hu => ⟨by have := s.ar_sz u hu; omega, p2 u hu⟩) q2 e2
      refine ⟨?_, e4⟩
      rw [s.back, t.back, e1, e3]
/-- unlike terms have unlike texts -/
theorem txt_inj {s t : Tm} {k : Nat} (hs : s.bd = true) (ht : t.bd = true) (h : s.txt k = t.txt k) : s = t :=
  (inj_t s.sz s t k [] [] (Nat.le_refl _) hs ht (.inl rfl) (.inl rfl) (by rw [h])).1
end Mi
end
section
set_option linter.all false
set_option autoImplicit false
set_option maxRecDepth 100000
namespace Mi
theorem dg_len_all : (List.range 100).all (fun n => decide ((dg n).length ≤ 2)) = true := by decide +kernel
theorem dg_len {n : Nat} (h : n < 100) : (dg n).length ≤ 2 := by
  have := List.all_eq_true.mp dg_len_all n (List.mem_range.mpr h)
  simpa using this
theorem vStr_dg (st : Sto) {n : Nat} (h : n < 100) : vStr st [.int (n : Int)] = some (.str (dg n)) := by
  have : ((n : Int)).natAbs.log2 < 1920 := by
    have e : ((n : Int)).natAbs = n := by omega
    rw [e]
    exact Nat.lt_of_le_of_lt (Nat.log2_le_self n) (by omega)
  simp only [vStr, this, if_true]
  rfl
theorem txt_len : ∀ (t : Tm) (k : Nat), t.bd = true → k + t.sz ≤ 100 → (t.txt k).length ≤ 8 * t.sz
  | .v n, k, h, _ => by
    simp only [Tm.bd, decide_eq_true_eq] at h
    have := dg_len h
    simp only [Tm.txt, Tm.sz, List.length_cons]
    omega
  | .l t, k, h, hk => by
    simp only [Tm.sz] at hk
    have h1 := txt_len t (k + 1) h (by omega)
    have h2 := dg_len (n := k) (by omega)
    simp only [Tm.txt, Tm.sz, List.length_cons, List.length_append]
    omega
  | .a s t, k, h, hk => by
    simp only [Tm.sz] at hk
    simp only [Tm.bd, Bool.and_eq_true] at h
    have h1 := txt_len s k h.1 (by omega)
    have h2 := txt_len t k h.2 (by omega)
    have e1 : (if s.isL = true then 40 :: (s.txt k ++ [41]) else s.txt k).length ≤ (s.txt k).length + 2 := by split <;> simp
    have e2 : (if t.isV = true then t.txt k else 40 :: (t.txt k ++ [41])).length ≤ (t.txt k).length + 2 := by split <;> simp
    simp only [Tm.txt, Tm.sz, List.length_cons, List.length_append]
    omega
section
variable {σ : Env} {st : Sto}
theorem sAdd {a b : XE} {x y : List Nat} (h1 : a σ st = .ok (.str x) st) (h2 : b σ st = .ok (.str y) st) (h : x.length + y.length ≤ 1000) : xOp vAdd a b σ st = .ok (.str (x ++ y)) st := xOp_ok h1 h2 (by
  have : x.length + y.length ≤ szL := by simp only [szL]; omega
  simp only [vAdd, this, if_true])
theorem xStr {m : XE} {n : Nat} (h : m σ st = .ok (.int (n : Int)) st) (hn : n < 100) : xB vStr (xCons m xNil) σ st = .ok (.str (dg n)) st := xB_ok (xC1 h) (vStr_dg st hn)
end
theorem text_bound {t : Tm} {k : Nat} (h : t.bd = true) (hk : k + t.sz ≤ 50) : (t.txt k).length ≤ 400 := by
  have := txt_len t k h (by omega)
  omega
theorem paren {σ : Env} {st : Sto} {b : XE} {x : List Nat} (hb : b σ st = .ok (.str x) st) (h : x.length ≤ 500) : xOp vAdd (xOp vAdd (xC (.str [40])) b) (xC (.str [41])) σ st = .ok (.str (40 :: (x ++ [41]))) st := by
  have w := sAdd (sAdd (σ := σ) (st := st) (a := xC (.str [40])) (x := [40]) rfl hb (by simp only [List.length_cons, List.length_nil]; omega)) (b := xC (.str [41])) (y := [41]) rfl (by simp only [List.length_cons, List.length_nil, List.length_append]; omega)
  exact w
/-- text of an application -/
theorem app_txt {σ : Env} {st : Sto} {s t : Tm} {k : Nat} {a q : XE} (hs : s.bd = true) (ht : t.bd = true) (k1 : k + s.sz ≤ 50) (k2 : k + t.sz ≤ 50)
    (ha : a σ st = .ok (.str (if s.isL then 40 :: (s.txt k ++ [41]) else s.txt k)) st) (hq : q σ st = .ok (.str (if t.isV then t.txt k else 40 :: (t.txt k ++ [41]))) st) :
    xOp vAdd (xOp vAdd a (xC (.str [32]))) q σ st = .ok (.str ((Tm.a s t).txt k)) st := by
  have e1 : (if s.isL = true then 40 :: (s.txt k ++ [41]) else s.txt k).length ≤ (s.txt k).length + 2 := by split <;> simp
  have l1 := text_bound hs k1
  have l2 := text_bound ht k2
  have e2 : (if t.isV = true then t.txt k else 40 :: (t.txt k ++ [41])).length ≤ (t.txt k).length + 2 := by split <;> simp
  have w := sAdd (sAdd ha (b := xC (.str [32])) (y := [32]) rfl (by simp only [List.length_cons, List.length_nil]; omega)) hq (by simp only [List.length_cons, List.length_nil, List.length_append]; omega)
  have e : (if s.isL = true then 40 :: (s.txt k ++ [41]) else s.txt k) ++ [32] ++ (if t.isV = true then t.txt k else 40 :: (t.txt k ++ [41])) = (Tm.a s t).txt k := by
    simp only [Tm.txt, List.append_assoc, List.singleton_append]
  rw [e] at w
  exact w
theorem q_if {σ : Env} {st : Sto} {t : Tm} {k : Nat} {b : XE} {c : XT} (hl : (t.txt k).length ≤ 400) (hb : b σ st = .ok (.str (t.txt k)) st) (hc : c σ st = .ok t.isV st) :
    xIf c b (xOp vAdd (xOp vAdd (xC (.str [40])) b) (xC (.str [41]))) σ st = .ok (.str (if t.isV then t.txt k else 40 :: (t.txt k ++ [41]))) st := by
  cases z : t.isV with
  | true =>
    rw [z] at hc
    exact xIf_t hc hb
  | false =>
    rw [z] at hc
    exact xIf_f hc (paren hb (by omega))
theorem q_if2 {σ : Env} {st : Sto} {t : Tm} {k : Nat} {b : XE} {c : XT} (hl : (t.txt k).length ≤ 400) (hb : b σ st = .ok (.str (t.txt k)) st) (hc : c σ st = .ok (!t.isV) st) :
    xIf c (xOp vAdd (xOp vAdd (xC (.str [40])) b) (xC (.str [41]))) b σ st = .ok (.str (if t.isV then t.txt k else 40 :: (t.txt k ++ [41]))) st := by
  cases z : t.isV with
  | true =>
    rw [z] at hc
    exact xIf_f hc hb
  | false =>
    rw [z] at hc
    exact xIf_t hc (paren hb (by omega))
theorem text_in_ok : ∀ (n : Nat) (t : Tm) (k : Nat), t.sz ≤ n → t.bd = true → k + t.sz ≤ 50 → m_affine_text_in n [t.d, .int k] [] = .ok (.str (t.txt k)) []
  | 0, t, k, h, _, _ => by have := t.pos; omega
  | n + 1, .v m, k, h, hb, hk => by
    refine mkDef_rt rfl ?_
    show sSeq _ _ [some (Tm.v m).d, some (.int k), none, none] [] = _
    refine sSeq_rt ?_
    rw [sIf_t (tInt (t := .v m) rfl)]
    simp only [Tm.bd, decide_eq_true_eq] at hb
    have := dg_len hb
    exact sRet_ok (sAdd (x := [120]) (y := dg m) rfl (xStr (m := xVar 0) rfl hb) (by simp only [List.length_cons, List.length_nil]; omega))
  | n + 1, .l t, k, h, hb, hk => by
    simp only [Tm.sz] at h hk
    refine mkDef_rt rfl ?_
    show sSeq _ _ [some (Tm.l t).d, some (.int k), none, none] [] = _
    rw [sSeq_nx (sIf_fn (tInt (t := .l t) rfl))]
    refine sSeq_rt ?_
    rw [sIf_t (fun_l (t := t) (xVar 0) rfl)]
    have l1 := text_bound (t := t) (k := k + 1) hb (by omega)
    have l2 := dg_len (n := k) (by omega)
    have c := callP (np := 2) (g := m_affine_text_in n) (σ := [some (Tm.l t).d, some (.int k), none, none]) (st := []) (ma := xCons (xOp vIx (xVar 0) (xC (.int 1))) (xCons (xOp vAdd (xVar 1) (xC (.int 1))) xNil)) (ds := [t.d, .int ((k + 1 : Nat) : Int)]) rfl rfl (by simp [fxL, t.fx, D.fx]) (text_in_ok n t (k + 1) (by omega) hb (by omega)) rfl
    have w := sAdd (sAdd (sAdd (a := xC (.str [92, 120])) (x := [92, 120]) rfl (xStr (m := xVar 1) (n := k) rfl (by omega)) (by simp; omega)) (b := xC (.str [46, 32])) (y := [46, 32]) rfl (by simp; omega)) c (by simp; omega)
    have e : [92, 120] ++ dg k ++ [46, 32] ++ t.txt (k + 1) = (Tm.l t).txt k := by
      simp only [Tm.txt, List.append_assoc, List.cons_append, List.nil_append]
    rw [e] at w
    exact sRet_ok w
  | n + 1, .a s t, k, h, hb, hk => by
    simp only [Tm.sz] at h hk
    simp only [Tm.bd, Bool.and_eq_true] at hb
    have l1 := text_bound (t := s) (k := k) hb.1 (by omega)
    have l2 := text_bound (t := t) (k := k) hb.2 (by omega)
    refine mkDef_rt rfl ?_
    show sSeq _ _ [some (Tm.a s t).d, some (.int k), none, none] [] = _
    rw [sSeq_nx (sIf_fn (tInt (t := .a s t) rfl)), sSeq_nx (sIf_fn (fun_a (s := s) (t := t) (xVar 0) rfl))]
    have c1 := callP (np := 2) (g := m_affine_text_in n) (σ := [some (Tm.a s t).d, some (.int k), none, none]) (st := []) (ma := xCons (xOp vIx (xVar 0) (xC (.int 1))) (xCons (xVar 1) xNil)) (ds := [s.d, .int k]) rfl rfl (by simp [fxL, s.fx, D.fx]) (text_in_ok n s k (by omega) hb.1 (by omega)) rfl
    have c2 := callP (np := 2) (g := m_affine_text_in n) (σ := [some (Tm.a s t).d, some (.int k), none, none]) (st := []) (ma := xCons (xOp vIx (xVar 0) (xC (.int 2))) (xCons (xVar 1) xNil)) (ds := [t.d, .int k]) rfl rfl (by simp [fxL, t.fx, D.fx]) (text_in_ok n t k (by omega) hb.2 (by omega)) rfl
    have hp : sPar [2, 3] (xCons (xCallP 2 (m_affine_text_in n) (xCons (xOp vIx (xVar 0) (xC (.int 1))) (xCons (xVar 1) xNil))) (xCons (xCallP 2 (m_affine_text_in n) (xCons (xOp vIx (xVar 0) (xC (.int 2))) (xCons (xVar 1) xNil))) xNil)) [some (Tm.a s t).d, some (.int k), none, none] [] = .nx [some (Tm.a s t).d, some (.int k), some (.str (s.txt k)), some (.str (t.txt k))] [] := by
      simp only [sPar, xCons, xNil, c1, c2, Out.bind_ok]
      rfl
    rw [sSeq_nx hp]
    have ct : tAnd (tNot (tV (xCallP 1 m_is_integer (xCons (xOp vIx (xVar 0) (xC (.int 1))) xNil)))) (tV (xOp vEq (xOp vIx (xOp vIx (xVar 0) (xC (.int 1))) (xC (.int 0))) (xC (.str [102, 117, 110])))) [some (Tm.a s t).d, some (.int k), some (.str (s.txt k)), some (.str (t.txt k))] [] = .ok s.isL [] := by
      have c1 := tNot_bl (tInt (t := s) (σ := [some (Tm.a s t).d, some (.int k), some (.str (s.txt k)), some (.str (t.txt k))]) (st := []) (ma := xCons (xOp vIx (xVar 0) (xC (.int 1))) xNil) rfl)
      cases s with
      | v m => simp only [tAnd, c1, Out.bind_ok]; rfl
      | l b =>
        have c2 := fun_l (t := b) (σ := [some (Tm.a (.l b) t).d, some (.int k), some (.str ((Tm.l b).txt k)), some (.str (t.txt k))]) (st := []) (xOp vIx (xVar 0) (xC (.int 1))) rfl
        simp only [tAnd, c1, c2, Out.bind_ok]; rfl
      | a p q =>
        have c2 := fun_a (s := p) (t := q) (σ := [some (Tm.a (.a p q) t).d, some (.int k), some (.str ((Tm.a p q).txt k)), some (.str (t.txt k))]) (st := []) (xOp vIx (xVar 0) (xC (.int 1))) rfl
        simp only [tAnd, c1, c2, Out.bind_ok]; rfl
    have B : sIf (tAnd (tNot (tV (xCallP 1 m_is_integer (xCons (xOp vIx (xVar 0) (xC (.int 1))) xNil)))) (tV (xOp vEq (xOp vIx (xOp vIx (xVar 0) (xC (.int 1))) (xC (.int 0))) (xC (.str [102, 117, 110]))))) (sAsg (xOp vAdd (xOp vAdd (xC (.str [40])) (xVar 2)) (xC (.str [41]))) (gVar 2)) sNext [some (Tm.a s t).d, some (.int k), some (.str (s.txt k)), some (.str (t.txt k))] [] = .nx [some (Tm.a s t).d, some (.int k), some (.str (if s.isL then 40 :: (s.txt k ++ [41]) else s.txt k)), some (.str (t.txt k))] [] := by
      cases z : s.isL with
      | true =>
        rw [z] at ct
        rw [sIf_t ct, if_pos rfl]
        exact sAsg_var (sAdd (sAdd (x := [40]) (y := s.txt k) rfl rfl (by simp; omega)) (b := xC (.str [41])) (y := [41]) rfl (by simp; omega))
      | false =>
        rw [z] at ct
        rw [sIf_fn ct, if_neg (by simp)]
    rw [sSeq_nx B]
    exact sRet_ok (app_txt hb.1 hb.2 (by omega) (by omega) rfl (q_if l2 rfl (tInt (t := t) rfl)))
theorem ltext_ok : ∀ (n : Nat) (t : Tm) (k : Nat), t.sz ≤ n → t.bd = true → k + t.sz ≤ 50 → m__law_text n [t.d, .int k] [] = .ok (.str (t.txt k)) []
  | 0, t, k, h, _, _ => by have := t.pos; omega
  | n + 1, .v m, k, h, hb, hk => by
    refine mkDef_rt rfl ?_
    show sSeq _ _ [some (Tm.v m).d, some (.int k), none, none] [] = _
    refine sSeq_rt ?_
    rw [sIf_t (tNot_bl (tTup (t := .v m) rfl))]
    simp only [Tm.bd, decide_eq_true_eq] at hb
    have := dg_len hb
    exact sRet_ok (sAdd (x := [120]) (y := dg m) rfl (xStr (m := xVar 0) rfl hb) (by simp only [List.length_cons, List.length_nil]; omega))
  | n + 1, .l t, k, h, hb, hk => by
    simp only [Tm.sz] at h hk
    refine mkDef_rt rfl ?_
    show sSeq _ _ [some (Tm.l t).d, some (.int k), none, none] [] = _
    rw [sSeq_nx (sIf_fn (tNot_bl (tTup (t := .l t) rfl)))]
    refine sSeq_rt ?_
    rw [sIf_t (fun_l (t := t) (xVar 0) rfl)]
    have l1 := text_bound (t := t) (k := k + 1) hb (by omega)
    have l2 := dg_len (n := k) (by omega)
    have c := callP (np := 2) (g := m__law_text n) (σ := [some (Tm.l t).d, some (.int k), none, none]) (st := []) (ma := xCons (xOp vIx (xVar 0) (xC (.int 1))) (xCons (xOp vAdd (xVar 1) (xC (.int 1))) xNil)) (ds := [t.d, .int ((k + 1 : Nat) : Int)]) rfl rfl (by simp [fxL, t.fx, D.fx]) (ltext_ok n t (k + 1) (by omega) hb (by omega)) rfl
    have w := sAdd (sAdd (sAdd (a := xC (.str [92, 120])) (x := [92, 120]) rfl (xStr (m := xVar 1) (n := k) rfl (by omega)) (by simp; omega)) (b := xC (.str [46, 32])) (y := [46, 32]) rfl (by simp; omega)) c (by simp; omega)
    have e : [92, 120] ++ dg k ++ [46, 32] ++ t.txt (k + 1) = (Tm.l t).txt k := by
      simp only [Tm.txt, List.append_assoc, List.cons_append, List.nil_append]
    rw [e] at w
    exact sRet_ok w
  | n + 1, .a s t, k, h, hb, hk => by
    simp only [Tm.sz] at h hk
    simp only [Tm.bd, Bool.and_eq_true] at hb
    have l1 := text_bound (t := s) (k := k) hb.1 (by omega)
    have l2 := text_bound (t := t) (k := k) hb.2 (by omega)
    refine mkDef_rt rfl ?_
    show sSeq _ _ [some (Tm.a s t).d, some (.int k), none, none] [] = _
    rw [sSeq_nx (sIf_fn (tNot_bl (tTup (t := .a s t) rfl))), sSeq_nx (sIf_fn (fun_a (s := s) (t := t) (xVar 0) rfl))]
    have c1 := callP (np := 2) (g := m__law_text n) (σ := [some (Tm.a s t).d, some (.int k), none, none]) (st := []) (ma := xCons (xOp vIx (xVar 0) (xC (.int 1))) (xCons (xVar 1) xNil)) (ds := [s.d, .int k]) rfl rfl (by simp [fxL, s.fx, D.fx]) (ltext_ok n s k (by omega) hb.1 (by omega)) rfl
    have c2 := callP (np := 2) (g := m__law_text n) (σ := [some (Tm.a s t).d, some (.int k), none, none]) (st := []) (ma := xCons (xOp vIx (xVar 0) (xC (.int 2))) (xCons (xVar 1) xNil)) (ds := [t.d, .int k]) rfl rfl (by simp [fxL, t.fx, D.fx]) (ltext_ok n t k (by omega) hb.2 (by omega)) rfl
    have hp : sPar [2, 3] (xCons (xCallP 2 (m__law_text n) (xCons (xOp vIx (xVar 0) (xC (.int 1))) (xCons (xVar 1) xNil))) (xCons (xCallP 2 (m__law_text n) (xCons (xOp vIx (xVar 0) (xC (.int 2))) (xCons (xVar 1) xNil))) xNil)) [some (Tm.a s t).d, some (.int k), none, none] [] = .nx [some (Tm.a s t).d, some (.int k), some (.str (s.txt k)), some (.str (t.txt k))] [] := by
      simp only [sPar, xCons, xNil, c1, c2, Out.bind_ok]
      rfl
    rw [sSeq_nx hp]
    have ct : tAnd (tV (xUn (vIsT [] [.tuple]) (xOp vIx (xVar 0) (xC (.int 1))))) (tV (xOp vEq (xOp vIx (xOp vIx (xVar 0) (xC (.int 1))) (xC (.int 0))) (xC (.str [102, 117, 110])))) [some (Tm.a s t).d, some (.int k), some (.str (s.txt k)), some (.str (t.txt k))] [] = .ok s.isL [] := by
      have c1 := tTup (t := s) (σ := [some (Tm.a s t).d, some (.int k), some (.str (s.txt k)), some (.str (t.txt k))]) (st := []) (m := xOp vIx (xVar 0) (xC (.int 1))) rfl
      cases s with
      | v m => simp only [tAnd, c1, Out.bind_ok]; rfl
      | l b =>
        have c2 := fun_l (t := b) (σ := [some (Tm.a (.l b) t).d, some (.int k), some (.str ((Tm.l b).txt k)), some (.str (t.txt k))]) (st := []) (xOp vIx (xVar 0) (xC (.int 1))) rfl
        simp only [tAnd, c1, c2, Out.bind_ok]; rfl
      | a p q =>
        have c2 := fun_a (s := p) (t := q) (σ := [some (Tm.a (.a p q) t).d, some (.int k), some (.str ((Tm.a p q).txt k)), some (.str (t.txt k))]) (st := []) (xOp vIx (xVar 0) (xC (.int 1))) rfl
        simp only [tAnd, c1, c2, Out.bind_ok]; rfl
    have B : xIf (tAnd (tV (xUn (vIsT [] [.tuple]) (xOp vIx (xVar 0) (xC (.int 1))))) (tV (xOp vEq (xOp vIx (xOp vIx (xVar 0) (xC (.int 1))) (xC (.int 0))) (xC (.str [102, 117, 110]))))) (xOp vAdd (xOp vAdd (xC (.str [40])) (xVar 2)) (xC (.str [41]))) (xVar 2) [some (Tm.a s t).d, some (.int k), some (.str (s.txt k)), some (.str (t.txt k))] [] = .ok (.str (if s.isL then 40 :: (s.txt k ++ [41]) else s.txt k)) [] := by
      cases z : s.isL with
      | true =>
        rw [z] at ct
        rw [if_pos rfl]
        exact xIf_t ct (sAdd (sAdd (x := [40]) (y := s.txt k) rfl rfl (by simp; omega)) (b := xC (.str [41])) (y := [41]) rfl (by simp; omega))
      | false =>
        rw [z] at ct
        rw [if_neg (by simp)]
        exact xIf_f ct rfl
    refine asg_nx B ?_
    exact sRet_ok (app_txt (s := s) (t := t) (k := k) hb.1 hb.2 (by omega) (by omega) rfl (q_if2 l2 rfl (tTup (t := t) rfl)))
end Mi
end
section
set_option linter.all false
set_option autoImplicit false
namespace Mi
abbrev la1 : XS := (sAsg (xCall 1 m__law_hand (xCons (xVar 0) xNil)) (gVar 1))
abbrev la2 : XS := (sIf (tV (xOp vNe (xCallP 1 m_all_terms (xCons (xC (.int 1)) xNil)) (xFrz (xLst xNil))))
 (sRet (xC (.bl false)))
 sNext)
abbrev la3 : XS := (sIf (tV (xOp vNe (xCallP 1 m_all_terms (xCons (xC (.int 2)) xNil)) (xFrz (xLst (xCons (xTup (xCons (xC (.str [102, 117, 110])) (xCons (xC (.int 0)) xNil))) xNil)))))
 (sRet (xC (.bl false)))
 sNext)
abbrev la4 : XS := (sIf (tV (xOp vNe (xCallP 1 m_affine_text (xCons (xTup (xCons (xC (.str [102, 117, 110])) (xCons (xTup (xCons (xC (.str [102, 117, 110])) (xCons (xTup (xCons (xC (.str [117, 115, 101])) (xCons (xC (.int 1)) (xCons (xC (.int 0)) xNil)))) xNil))) xNil))) xNil)) (xC (.str [92, 120, 48, 46, 32, 92, 120, 49, 46, 32, 120, 49, 32, 120, 48]))))
 (sRet (xC (.bl false)))
 sNext)
abbrev la5 : XS := (sIf (tV (xOp vNe (xCallP 1 m_affine_text (xCons (xTup (xCons (xC (.str [117, 115, 101])) (xCons (xTup (xCons (xC (.str [102, 117, 110])) (xCons (xC (.int 0)) xNil))) (xCons (xTup (xCons (xC (.str [117, 115, 101])) (xCons (xTup (xCons (xC (.str [102, 117, 110])) (xCons (xC (.int 0)) xNil))) (xCons (xTup (xCons (xC (.str [102, 117, 110])) (xCons (xC (.int 0)) xNil))) xNil)))) xNil)))) xNil)) (xC (.str [40, 92, 120, 48, 46, 32, 120, 48, 41, 32, 40, 40, 92, 120, 48, 46, 32, 120, 48, 41, 32, 40, 92, 120, 48, 46, 32, 120, 48, 41, 41]))))
 (sRet (xC (.bl false)))
 sNext)
abbrev la6 : XS := (sAsg (xIf (tV (xOp vEq (xCall 2 m__law_draw (xCons (xVar 1) (xCons (xC (.int 8)) xNil))) (xC (.int 0)))) (xC (.int 7)) (xOp vAdd (xC (.int 1)) (xCall 2 m__law_draw (xCons (xVar 1) (xCons (xC (.int 6)) xNil))))) (gVar 2))
abbrev la7 : XS := (sPar [3, 4] (xCons (xCallL 1 m_all_terms (xCons (xVar 2) xNil)) (xCons (xFrz (xComp [7, 11] (iAny (xCallP 3 (m__law_every 8) (xCons (xVar 2) (xCons (xC (.int 0)) (xCons (xTup xNil) xNil))))) (gTup 2 (gsCons (gVar 7) (gsCons (gVar 11) gsNil))) tTrue (xVar 7))) xNil)))
abbrev la8 : XS := (sIf (tV (xOp vNe (xB vLen (xCons (xVar 3) xNil)) (xB vLen (xCons (xVar 4) xNil))))
 (sRet (xC (.bl false)))
 sNext)
abbrev la9 : XS := (sIf (tV (xOp vNe (xFrz (xBL lSorted (xCons (xFrz (xComp [7] (iAny (xVar 3)) (gVar 7) tTrue (xB vRepr (xCons (xVar 7) xNil)))) xNil))) (xFrz (xBL lSorted (xCons (xFrz (xComp [7] (iAny (xVar 4)) (gVar 7) tTrue (xB vRepr (xCons (xVar 7) xNil)))) xNil)))))
 (sRet (xC (.bl false)))
 sNext)
abbrev la10 : XS := (sAsg (xFrz (xComp [7] (iAny (xVar 3)) (gVar 7) tTrue (xIf (tV (xOp vEq (xOp vIx (xVar 7) (xC (.int 0))) (xC (.str [102, 117, 110])))) (xC (.int 0)) (xCallP 1 (m__law_parts 30) (xCons (xOp vIx (xVar 7) (xC (.int 1))) xNil))))) (gVar 5))
abbrev la11 : XS := (sIf (tV (xOp vNe (xVar 5) (xFrz (xBL lSorted (xCons (xVar 5) xNil)))))
 (sRet (xC (.bl false)))
 sNext)
abbrev la12 : XS := (sIf (tNot (tV (xB vAll (xCons (xFrz (xComp [7] (iAny (xVar 3)) (gVar 7) tTrue (xOp vIsB (xCallP 1 m_is_affine (xCons (xVar 7) xNil)) (xC (.bl true))))) xNil))))
 (sRet (xC (.bl false)))
 sNext)
abbrev la13 : XS := (sAsg (xLiveD xDNil) (gVar 6))
abbrev la14B1 : XS := (sAsg (xCallP 2 (m__law_text 30) (xCons (xVar 7) (xCons (xC (.int 0)) xNil))) (gVar 8))
abbrev la14B2 : XS := (sIf (tV (xReprNeT (xCallP 1 m_affine_text (xCons (xVar 7) xNil)) (xVar 8)))
 (sRet (xC (.bl false)))
 sNext)
abbrev la14B3 : XS := (sIf (tV (xOp vNe (xM Cell.isDct mSetd (xVar 6) (xCons (xVar 8) (xCons (xVar 7) xNil))) (xVar 7)))
 (sRet (xC (.bl false)))
 sNext)
abbrev la14B : XS := (sSeq la14B1 (sSeq la14B2 la14B3))
abbrev la14 : XS := sFor (iAny (xFrz (xOpL lCat (xVar 3) (xFrz (xComp [12] (iRange1 (xCons (xC (.int 5)) xNil)) (gVar 12) tTrue (xCall 2 m__law_closed (xCons (xVar 1) (xCons (xC (.int 10)) xNil)))))))) (gVar 7) la14B
abbrev la15 : XS := (sDrop (xM Cell.isLst mAppend (xVar 3) (xCons (xC .non) xNil)))
abbrev la16 : XS := (sIf (tV (xOp vNe (xB vLen (xCons (xCallP 1 m_all_terms (xCons (xVar 2) xNil)) xNil)) (xB vLen (xCons (xVar 4) xNil))))
 (sRet (xC (.bl false)))
 sNext)
abbrev la17 : XS := (sAsg (xCall 2 m__law_some (xCons (xVar 1) (xCons (xFrz (xLst (xCons (xC (.int 0)) (xCons (xC (.int 8)) (xCons (xUn vNeg (xC (.int 1))) (xCons (xC (.bl true)) (xCons (xC .non) (xCons (xC (.str [51])) (xCons (xTup (xCons (xC (.int 3)) xNil)) (xCons (xFrz (xLst (xCons (xC (.int 3)) xNil))) (xCons (xFrzD xDNil) (xCons (xOp vPow (xC (.int 10)) (xC (.int 19))) xNil)))))))))))) xNil))) (gVar 9))
abbrev la18 : XS := (sAsg (xCall 2 m__law_some (xCons (xVar 1) (xCons (xFrz (xLst (xCons (xC (.int 0)) (xCons (xC .non) (xCons (xTup (xCons (xC (.str [102, 117, 110])) (xCons (xTup (xCons (xC (.str [117, 115, 101])) (xCons (xC (.int 0)) (xCons (xC (.int 0)) xNil)))) xNil))) (xCons (xTup (xCons (xC (.str [102, 117, 110])) (xCons (xC (.int 1)) xNil))) (xCons (xFrz (xLst (xCons (xC (.str [102, 117, 110])) (xCons (xC (.int 0)) xNil)))) (xCons (xTup (xCons (xC (.str [102, 117, 110])) (xCons (xC (.bl true)) xNil))) (xCons (xTup xNil) (xCons (xFrzD xDNil) (xCons (xC (.str [120, 48])) xNil))))))))))) xNil))) (gVar 10))
abbrev la19 : XS := (sRet (xOp vEq (xFrz (xLst (xCons (xLamP m__law_word [9] (xCallP 1 m_all_terms (xCons (xVar 9) xNil))) (xCons (xLamP m__law_word [10] (xCallP 1 m_affine_text (xCons (xVar 10) xNil))) xNil)))) (xFrz (xLst (xCons (xC (.str [110, 117, 109, 98, 101, 114])) (xCons (xC (.str [97, 102, 102, 105, 110, 101])) xNil))))))
theorem x_la : m_law = mkDef 1 13 (sSeq la1 (sSeq la2 (sSeq la3 (sSeq la4 (sSeq la5 (sSeq la6 (sSeq la7 (sSeq la8 (sSeq la9 (sSeq la10 (sSeq la11 (sSeq la12 (sSeq la13 (sSeq la14 (sSeq la15 (sSeq la16 (sSeq la17 (sSeq la18 la19)))))))))))))))))) := rfl
end Mi
end
section
set_option linter.all false
set_option autoImplicit false
set_option maxRecDepth 100000
namespace Mi
mutual
theorem eqv_refl : ∀ (n : Nat) (x : D), x.flat n = true → x.eqv x = true
  | n, .non, _ => rfl
  | n, .bl a, _ => by simp [D.eqv]
  | n, .int a, _ => by simp [D.eqv]
  | n, .str a, _ => by simp [D.eqv]
  | 0, .tup xs, h => by simp [D.flat] at h
  | n + 1, .tup xs, h => by
    simp only [D.eqv]
    exact eqvL_refl n xs (by simpa [D.flat] using h)
  | 0, .lst xs, h => by simp [D.flat] at h
  | n + 1, .lst xs, h => by
    simp only [D.eqv]
    exact eqvL_refl n xs (by simpa [D.flat] using h)
  | n, .dct kvs, h => by simp [D.flat] at h
  | n, .ins c fs, h => by simp [D.flat] at h
  | n, .loc l, h => by simp [D.flat] at h
  | n, .scr xs, h => by simp [D.flat] at h
  | n, .exn, h => by simp [D.flat] at h
theorem eqvL_refl : ∀ (n : Nat) (xs : List D), flatL n xs = true → eqvL xs xs = true
  | n, [], _ => rfl
  | n, x :: xs, h => by
    simp only [flatL, Bool.and_eq_true] at h
    simp only [eqvL, eqv_refl n x h.1, eqvL_refl n xs h.2, Bool.and_self]
end
theorem flatL_all {n : Nat} : ∀ {xs : List D}, flatL n xs = true ↔ ∀ x ∈ xs, x.flat n = true
  | [] => by simp [flatL]
  | x :: xs => by simp [flatL, flatL_all (xs := xs)]
theorem affine_text_ok {t : Tm} (h : Aff t) (hs : t.sz ≤ 30) : m_affine_text [t.d] [] = .ok (.str (t.txt 0)) [] := by
  obtain ⟨g1, g2, g3⟩ := gt_aff h
  refine mkDef_rt rfl ?_
  show sSeq _ _ [some t.d] [] = _
  rw [sSeq_nx (call_check g1 g2 g3 rfl)]
  have b := t.cl_bd 0 h.cl (by omega)
  exact sRet_ok (callP (ds := [t.d, .int ((0 : Nat) : Int)]) rfl rfl (by simp [fxL, t.fx, D.fx]) (text_in_ok 30 t 0 hs b (by omega)) rfl)
/-- one of the sizes -/
def Sz (s : Nat) : Prop := 1 ≤ s ∧ s ≤ 7
theorem Sz.all {p : Nat → Bool} (h : (List.range 7).all (fun s => p (s + 1)) = true) {s : Nat} (hs : Sz s) : p s = true := by
  have := List.all_eq_true.mp h (s - 1) (List.mem_range.mpr (by have := hs.1; have := hs.2; omega))
  have e : s - 1 + 1 = s := by have := hs.1; omega
  rw [e] at this
  exact this
theorem all_terms_ok {s : Nat} (hs : Sz s) : ∃ r, m_all_terms [.int s] [] = .ok (.loc 0) (.lst (tms (toldT s)) :: r) := by
  have h := hs.all (p := isTold) isTold_all
  unfold isTold at h
  split at h
  · rename_i ds r e
    have := (sameL_iff _ _).mp h
    subst this
    exact ⟨r, e⟩
  · cases h
def dueT (s : Nat) : List Tm := (ev 8 s 0 []).map (·.1)
theorem every_ok {s : Nat} (hs : Sz s) : ∃ r, m__law_every 8 [.int s, .int 0, .tup []] [] = .ok (.lst (evD (ev 8 s 0 []))) r := by
  have h := hs.all (p := isDue) isDue_all
  unfold isDue at h
  split at h
  · rename_i ds r e
    have := (sameL_iff _ _).mp h
    subst this
    exact ⟨r, e⟩
  · cases h
theorem perm_ok {s : Nat} (hs : Sz s) : (toldT s).Perm (dueT s) := by
  have h := hs.all (p := fun s => (toldT s).isPerm (dueT s)) isPerm_all
  exact List.isPerm_iff.mp h
theorem aff_ok {s : Nat} (hs : Sz s) : ∀ t ∈ toldT s, Aff t ∧ t.sz ≤ 7 := fun t ht => by
  have h := List.all_eq_true.mp (hs.all (p := fun s => (toldT s).all fun t => t.cl 0 && t.once 0 && decide (t.sz ≤ 7)) aff_all) t ht
  simp only [Bool.and_eq_true, decide_eq_true_eq] at h
  exact ⟨⟨h.1.1, h.1.2, by omega⟩, h.2⟩
theorem aff_due {s : Nat} (hs : Sz s) : ∀ t ∈ dueT s, Aff t ∧ t.sz ≤ 7 := fun t ht => aff_ok hs t ((perm_ok hs).mem_iff.mpr ht)
def shT (t : Tm) : D := .str t.d.sh
theorem len_all : (List.range 7).all (fun s => decide ((toldT (s + 1)).length ≤ 100)) = true := by decide +kernel
theorem len_ok {s : Nat} (hs : Sz s) : (toldT s).length ≤ 100 := by
  have := hs.all (p := fun s => decide ((toldT s).length ≤ 100)) len_all
  simpa using this
theorem len_due {s : Nat} (hs : Sz s) : (dueT s).length = (toldT s).length := (perm_ok hs).length_eq.symm
theorem flat_all : (List.range 7).all (fun s => (toldT (s + 1)).all fun t => (shT t).flat 20) = true := by decide +kernel
theorem flat_ok {s : Nat} (hs : Sz s) : ∀ t ∈ toldT s, (shT t).flat 20 = true := List.all_eq_true.mp (hs.all (p := fun s => (toldT s).all fun t => (shT t).flat 20) flat_all)
theorem str_flat (n m : Nat) (s : List Nat) : (D.str s).flat n = (D.str s).flat m := by simp only [D.flat]
theorem sortable_str {l : List Tm} (h : ∀ t ∈ l, (shT t).flat 20 = true) : sortable (l.map shT) = true := by
  have h1 : ((l.map shT).all fun x => x.flat 20) = true := List.all_eq_true.mpr fun x hx => by
    obtain ⟨t, ht, rfl⟩ := List.mem_map.mp hx
    exact h t ht
  have h2 : ((l.map shT).all fun x => (l.map shT).all fun y => x.ord 20 y) = true := List.all_eq_true.mpr fun x hx => List.all_eq_true.mpr fun y hy => by
    obtain ⟨t, _, rfl⟩ := List.mem_map.mp hx
    obtain ⟨u, _, rfl⟩ := List.mem_map.mp hy
    simp only [shT, D.ord]
  have h3 : (l.map shT).all D.isStrD = true := List.all_eq_true.mpr fun x hx => by
    obtain ⟨t, _, rfl⟩ := List.mem_map.mp hx
    rfl
  simp only [sortable, h1, h2, h3, Bool.or_true, Bool.true_or, Bool.and_self]
theorem ord_str (l : List Tm) : OrdAll (l.map shT) := fun x hx y hy => by
  obtain ⟨t, _, rfl⟩ := List.mem_map.mp hx
  obtain ⟨u, _, rfl⟩ := List.mem_map.mp hy
  simp only [shT, D.ord]
/-- both, told and due, sorted by their texts, are one -/
theorem sorted_one {s : Nat} (hs : Sz s) : sortD ((toldT s).map shT) = sortD ((dueT s).map shT) :=
  sortD_eq (ord_str _) ((sortD_perm _).trans ((perm_ok hs).map shT)) (sortD_srt (ord_str _))
def rankT : Tm → Nat
  | .a s _ => s.sz
  | _ => 0
def rks (l : List Tm) : List D := l.map fun t => .int (rankT t : Nat)
theorem rank_all : (List.range 7).all (fun s => decide (((toldT (s + 1)).map rankT).Pairwise (· ≤ ·))) = true := by decide +kernel
theorem rank_ok {s : Nat} (hs : Sz s) : sortD (rks (toldT s)) = rks (toldT s) := by
  have h := hs.all (p := fun s => decide (((toldT s).map rankT).Pairwise (· ≤ ·))) rank_all
  simp only [decide_eq_true_eq] at h
  have o : OrdAll (rks (toldT s)) := fun x hx y hy => by
    obtain ⟨t, _, rfl⟩ := List.mem_map.mp hx
    obtain ⟨u, _, rfl⟩ := List.mem_map.mp hy
    simp only [D.ord]
  refine (sortD_eq o (List.Perm.refl _) ?_).symm
  refine List.pairwise_map.mpr ?_
  have h' := List.pairwise_map.mp h
  refine h'.imp fun {a b} q => ?_
  simp only [D.lt, decide_eq_false_iff_not]
  omega
theorem ne_self {st : Sto} {x : D} (h : (topOf st x).flat 60 = true) : vNe st x x = some (.bl false) := by
  simp only [vNe, h, Bool.and_self, if_true, eqv_refl 60 _ h, Bool.not_true]
end Mi
end
section
set_option linter.all false
set_option autoImplicit false
set_option maxRecDepth 100000
namespace Mi
section
variable {hd : Cell} {rest : Sto} {σ : Env}
/-- a draw, the hand in the second name -/
theorem draw1 (H : HandOk hd) (hr : stFx rest) (h0 : σ[1]? = some (some (.loc 0))) {mb : XE} {m : Int} (hm : mb σ (hd :: rest) = .ok (.int m) (hd :: rest)) (h1 : 0 < m) (h2 : m < 1073741824) :
    ∃ r hd', xCall 2 m__law_draw (xCons (xVar 1) (xCons mb xNil)) σ (hd :: rest) = .ok (.int r) (hd' :: rest) ∧ 0 ≤ r ∧ r < m ∧ HandOk hd' := by
  obtain ⟨r, hd', e, h3, h4, h5⟩ := draw_ok (rest := rest) H h1 h2
  refine ⟨r, hd', xCall_ok (st1 := hd :: rest) (gb := []) (ds := [.loc 0, .int m]) ?_ rfl (by rw [List.append_nil]; exact e) rfl rfl (stFx_cons (hand_fx h5) hr), h3, h4, h5⟩
  simp only [xCons, xNil, xVar, h0, hm, Out.bind_ok]
theorem some1 (H : HandOk hd) (hr : stFx rest) (h0 : σ[1]? = some (some (.loc 0))) {mb : XE} {xs : List D} (hm : mb σ (hd :: rest) = .ok (.lst xs) (hd :: rest)) (h1 : xs ≠ []) (h2 : xs.length < 1073741824) (hf : fxL xs = true) :
    ∃ x hd', xCall 2 m__law_some (xCons (xVar 1) (xCons mb xNil)) σ (hd :: rest) = .ok x (hd' :: rest) ∧ x ∈ xs ∧ HandOk hd' := by
  obtain ⟨x, hd', e, h3, h4⟩ := some_ok (rest := rest) H hr h1 h2
  refine ⟨x, hd', xCall_ok (st1 := hd :: rest) (gb := []) (ds := [.loc 0, .lst xs]) ?_ rfl (by rw [List.append_nil]; exact e) rfl (fxL_all.mp hf x h3) (stFx_cons (hand_fx h4) hr), h3, h4⟩
  simp only [xCons, xNil, xVar, h0, hm, Out.bind_ok]
end
section
variable {σ : Env} {st : Sto}
theorem all_call {ma : XA} {s : Nat} (hs : Sz s) (h : ma σ st = .ok [.int s] st) : xCallP 1 m_all_terms ma σ st = .ok (.lst (tms (toldT s))) st := by
  obtain ⟨r, e⟩ := all_terms_ok hs
  exact xCallP_ok h rfl rfl (runP_fz e (fz_loc (l := 0) rfl (tms_fx _)) (fx_pure (.lst (tms (toldT s))) (tms_fx _)))
theorem all_callL {ma : XA} {s : Nat} (hs : Sz s) (h : ma σ st = .ok [.int s] st) : xCallL 1 m_all_terms ma σ st = .ok (.loc st.length) (st ++ [.lst (tms (toldT s))]) := by
  obtain ⟨r, e⟩ := all_terms_ok hs
  unfold xCallL
  rw [h]
  have p : pureL [D.int s] = true := rfl
  have q : pureL (tms (toldT s)) = true := fxL_pure _ (tms_fx _)
  simp only [Out.bind_ok, List.length_cons, List.length_nil, Nat.zero_add, p, and_self, if_true, runL, e, List.getElem?_cons_zero, trL_fx _ _ (tms_fx _), q]
theorem every_call {ma : XA} {s : Nat} (hs : Sz s) (h : ma σ st = .ok [.int s, .int 0, .tup []] st) (hf : fxL (evD (ev 8 s 0 [])) = true) : xCallP 3 (m__law_every 8) ma σ st = .ok (.lst (evD (ev 8 s 0 []))) st := by
  obtain ⟨r, e⟩ := every_ok hs
  exact callP h rfl rfl e hf
end
theorem evD_fx (l : List (Tm × List Nat)) : fxL (evD l) = true := fxL_map fun p _ => by
  have : fxL (p.2.map fun (m : Nat) => D.int m) = true := fxL_map fun _ _ => rfl
  simp only [D.fx, fxL, p.1.fx, this, Bool.and_self]
theorem la2_ok (σ : Env) (st : Sto) : la2 σ st = .nx σ st := by
  have h := all_call (σ := σ) (st := st) (ma := xCons (xC (.int 1)) xNil) (s := 1) ⟨by decide, by decide⟩ rfl
  have e : tms (toldT 1) = [] := rfl
  rw [e] at h
  exact sIf_fn (tCmp h (show xFrz (xLst xNil) σ st = .ok (.lst []) st from rfl) rfl)
theorem told2 : toldT 2 = [.l (.v 0)] := by decide +kernel
theorem la3_ok (σ : Env) (st : Sto) : la3 σ st = .nx σ st := by
  have h := all_call (σ := σ) (st := st) (ma := xCons (xC (.int 2)) xNil) (s := 2) ⟨by decide, by decide⟩ rfl
  rw [told2] at h
  exact sIf_fn (tCmp h (show xFrz (xLst (xCons (xTup (xCons (xC (.str [102, 117, 110])) (xCons (xC (.int 0)) xNil))) xNil)) σ st = .ok (.lst (tms [.l (.v 0)])) st from rfl) (ne_self rfl))
theorem text_call {σ : Env} {st : Sto} {ma : XA} {t : Tm} (ht : Aff t) (h : ma σ st = .ok [t.d] st) : xCallP 1 m_affine_text ma σ st = .ok (.str (t.txt 0)) st := callP h rfl (by simp [fxL, t.fx]) (affine_text_ok ht ht.le) rfl
theorem txt4 : (Tm.l (.l (.a (.v 1) (.v 0)))).txt 0 = [92, 120, 48, 46, 32, 92, 120, 49, 46, 32, 120, 49, 32, 120, 48] := by decide +kernel
theorem txt5 : (Tm.a (.l (.v 0)) (.a (.l (.v 0)) (.l (.v 0)))).txt 0 = [40, 92, 120, 48, 46, 32, 120, 48, 41, 32, 40, 40, 92, 120, 48, 46, 32, 120, 48, 41, 32, 40, 92, 120, 48, 46, 32, 120, 48, 41, 41] := by decide +kernel
theorem la4_ok (σ : Env) (st : Sto) : la4 σ st = .nx σ st := by
  have h := text_call (σ := σ) (st := st) (t := .l (.l (.a (.v 1) (.v 0)))) ⟨rfl, rfl, by decide⟩ (ma := xCons (xTup (xCons (xC (.str [102, 117, 110])) (xCons (xTup (xCons (xC (.str [102, 117, 110])) (xCons (xTup (xCons (xC (.str [117, 115, 101])) (xCons (xC (.int 1)) (xCons (xC (.int 0)) xNil)))) xNil))) xNil))) xNil) rfl
  rw [txt4] at h
  exact sIf_fn (tCmp h rfl (ne_self rfl))
theorem la5_ok (σ : Env) (st : Sto) : la5 σ st = .nx σ st := by
  have h := text_call (σ := σ) (st := st) (t := .a (.l (.v 0)) (.a (.l (.v 0)) (.l (.v 0)))) ⟨rfl, rfl, by decide⟩ (ma := xCons (xTup (xCons (xC (.str [117, 115, 101])) (xCons (xTup (xCons (xC (.str [102, 117, 110])) (xCons (xC (.int 0)) xNil))) (xCons (xTup (xCons (xC (.str [117, 115, 101])) (xCons (xTup (xCons (xC (.str [102, 117, 110])) (xCons (xC (.int 0)) xNil))) (xCons (xTup (xCons (xC (.str [102, 117, 110])) (xCons (xC (.int 0)) xNil))) xNil)))) xNil)))) xNil) rfl
  rw [txt5] at h
  exact sIf_fn (tCmp h rfl (ne_self rfl))
def xE (S v2 v3 v4 v5 v6 v7 v8 v9 v10 v11 v12 : Option D) : Env := [S, some (.loc 0), v2, v3, v4, v5, v6, v7, v8, v9, v10, v11, v12]
theorem la6_ok {hd : Cell} {S : Option D} (H : HandOk hd) : ∃ s hd', Sz s ∧ HandOk hd' ∧ la6 (xE S none none none none none none none none none none none) [hd] = .nx (xE S (some (.int (s : Nat))) none none none none none none none none none none) [hd'] := by
  obtain ⟨r, hd1, d1, d2, d3, H1⟩ := draw1 (σ := xE S none none none none none none none none none none none) (rest := []) H stFx_nil rfl (mb := xC (.int 8)) (m := 8) rfl (by decide) (by decide)
  have t1 : tV (xOp vEq (xCall 2 m__law_draw (xCons (xVar 1) (xCons (xC (.int 8)) xNil))) (xC (.int 0))) (xE S none none none none none none none none none none none) [hd] = .ok (decide (r = 0)) [hd1] := by
    have : xOp vEq (xCall 2 m__law_draw (xCons (xVar 1) (xCons (xC (.int 8)) xNil))) (xC (.int 0)) (xE S none none none none none none none none none none none) [hd] = .ok (.bl (decide (r = 0))) [hd1] := xOp_ok d1 rfl rfl
    simp only [tV, this, Out.bind_ok]
    rfl
  by_cases h0 : r = 0
  · rw [decide_eq_true h0] at t1
    refine ⟨7, hd1, ⟨by decide, by decide⟩, H1, ?_⟩
    exact sAsg_var (d := .int 7) (by simp only [xIf, t1, Out.bind_ok, if_true]; rfl)
  · rw [decide_eq_false h0] at t1
    obtain ⟨q, hd2, e1, e2, e3, H2⟩ := draw1 (σ := xE S none none none none none none none none none none none) (rest := []) H1 stFx_nil rfl (mb := xC (.int 6)) (m := 6) rfl (by decide) (by decide)
    refine ⟨q.toNat + 1, hd2, ⟨by omega, by omega⟩, H2, ?_⟩
    have a : xOp vAdd (xC (.int 1)) (xCall 2 m__law_draw (xCons (xVar 1) (xCons (xC (.int 6)) xNil))) (xE S none none none none none none none none none none none) [hd1] = .ok (.int ((q.toNat + 1 : Nat) : Int)) [hd2] := xOp_ok (x := .int 1) (st1 := [hd1]) rfl e1 (by
      rw [vAdd_int]
      congr 2
      omega)
    exact sAsg_var (by simp only [xIf, t1, Out.bind_ok, Bool.false_eq_true, if_false, a])
def fstD : D → D
  | .tup (x :: _) => x
  | d => d
theorem evD_fst (l : List (Tm × List Nat)) : (evD l).map fstD = tms (l.map (·.1)) := by
  simp only [evD, tms, List.map_map]
  rfl
theorem len_ev {s : Nat} (hs : Sz s) : (evD (ev 8 s 0 [])).length ≤ 100 := by
  have h1 := len_due hs
  have h2 := len_ok hs
  simp only [dueT, List.length_map] at h1
  simp only [evD, List.length_map]
  omega
theorem la7_ok {hd : Cell} {S : Option D} {s : Nat} (hs : Sz s) : la7 (xE S (some (.int (s : Nat))) none none none none none none none none none none) [hd] = .nx (xE S (some (.int (s : Nat))) (some (.loc 1)) (some (.lst (tms (dueT s)))) none none none none none none none none) [hd, .lst (tms (toldT s))] := by
  have a := all_callL (σ := xE S (some (.int (s : Nat))) none none none none none none none none none none) (st := [hd]) (ma := xCons (xVar 2) xNil) hs rfl
  have b := every_call (σ := xE S (some (.int (s : Nat))) none none none none none none none none none none) (st := [hd, .lst (tms (toldT s))]) (ma := xCons (xVar 2) (xCons (xC (.int 0)) (xCons (xTup xNil) xNil))) hs rfl (evD_fx _)
  have hi : iAny (xCallP 3 (m__law_every 8) (xCons (xVar 2) (xCons (xC (.int 0)) (xCons (xTup xNil) xNil)))) (xE S (some (.int (s : Nat))) none none none none none none none none none none) [hd, .lst (tms (toldT s))] = .ok ⟨evD (ev 8 s 0 []), none⟩ [hd, .lst (tms (toldT s))] := by
    simp only [iAny, b, Out.bind_ok]
    rfl
  have c := xComp_map (own := [7, 11]) (g := gTup 2 (gsCons (gVar 7) (gsCons (gVar 11) gsNil))) (e := xVar 7) fstD hi (fun d hd => by
    obtain ⟨p, _, rfl⟩ := List.mem_map.mp hd
    exact ⟨_, rfl, rfl⟩) (by have := len_ev hs; simp only [szL]; omega)
  rw [evD_fst] at c
  have f := frz_ok c
  unfold la7
  simp only [sPar, xCons, xNil, a, f, Out.bind_ok, List.length_cons, List.length_nil, List.cons_append, List.nil_append]
  rfl
end Mi
end
section
set_option linter.all false
set_option autoImplicit false
set_option maxRecDepth 100000
namespace Mi
theorem compL_live {it : It} {g : XG} {e : XE} {σ : Env} {st : Sto} (F : D → D) (hok : it.okAt st = true) : ∀ (ds acc : List D), (∀ d ∈ ds, ∃ σ1, g d σ st = some (σ1, st) ∧ e σ1 st = .ok (F d) st) → acc.length + ds.length ≤ szL →
    compL it g tTrue e σ ds st acc = .ok (acc ++ ds.map F) st
  | [], acc, h, hl => by simp [compL, hok]
  | d :: r, acc, h, hl => by
    obtain ⟨σ1, h1, h3⟩ := h d (List.mem_cons_self)
    simp only [List.length_cons] at hl
    have hlt : acc.length < szL := by omega
    have t : tTrue σ1 st = .ok true st := rfl
    simp only [compL, hok, if_true, h1, t, h3, hlt]
    rw [compL_live F hok r (acc ++ [F d]) (fun x hx => h x (List.mem_cons_of_mem _ hx)) (by simp; omega)]
    simp
theorem sameL_self (l : List D) : sameL l l = true := (sameL_iff _ _).mpr rfl
theorem xComp_live {own : List Nat} {i : XI} {g : XG} {e : XE} {σ : Env} {st : Sto} {ds : List D} {l : Nat} (F : D → D) (hi : i σ st = .ok ⟨ds, some l⟩ st) (hs : st[l]? = some (.lst ds)) (h : ∀ d ∈ ds, ∃ σ1, g d (wipeV σ own) st = some (σ1, st) ∧ e σ1 st = .ok (F d) st) (hl : ds.length ≤ szL) :
    xComp own i g tTrue e σ st = .ok (ds.map F) st := by
  unfold xComp
  rw [hi]
  simp only [Out.bind_ok]
  rw [compL_live F (by simp only [It.okAt, hs, sameL_self]) ds [] h (by simpa using hl)]
  simp
theorem shk_d : ∀ t : Tm, t.d.shk = true
  | .v n => rfl
  | .l t => by
    have := shk_d t
    simp [Tm.d, D.shk, shkL, this]
  | .a s t => by
    have := shk_d s
    have := shk_d t
    simp [Tm.d, D.shk, shkL, *]
section
variable {hd : Cell} {S v5 v6 v7 v8 v9 v10 v11 v12 : Option D} {s : Nat} {rest : Sto}
theorem it3 (x : List D) : iAny (xVar 3) (xE S (some (.int (s : Nat))) (some (.loc 1)) (some (.lst (tms (dueT s)))) v5 v6 v7 v8 v9 v10 v11 v12) (hd :: .lst x :: rest) = .ok ⟨x, some 1⟩ (hd :: .lst x :: rest) := rfl
theorem la8_ok (hs : Sz s) : la8 (xE S (some (.int (s : Nat))) (some (.loc 1)) (some (.lst (tms (dueT s)))) v5 v6 v7 v8 v9 v10 v11 v12) (hd :: .lst (tms (toldT s)) :: rest) = .nx (xE S (some (.int (s : Nat))) (some (.loc 1)) (some (.lst (tms (dueT s)))) v5 v6 v7 v8 v9 v10 v11 v12) (hd :: .lst (tms (toldT s)) :: rest) := by
  refine sIf_fn (tCmp (x := .int (tms (toldT s)).length) (y := .int (tms (toldT s)).length) (xB_ok (xC1 rfl) rfl) (xB_ok (xC1 rfl) ?_) (ne_self rfl))
  show some (D.int ((tms (dueT s)).length : Nat)) = _
  have := len_due hs
  simp only [tms, List.length_map, this]
theorem repr_of {σ : Env} {st : Sto} {m : XE} {t : Tm} (ht : Aff t) (h : m σ st = .ok t.d st) : xB vRepr (xCons m xNil) σ st = .ok (shT t) st := xB_ok (xC1 h) (by
  simp only [vRepr, rp_t ht, shk_d, and_self, if_true]
  rfl)
theorem sorted_frz {σ : Env} {st : Sto} {m : XL} {l : List Tm} (h : m σ st = .ok (l.map shT) st) (hf : ∀ t ∈ l, (shT t).flat 20 = true) (hl : l.length ≤ 100) : xFrz (xBL lSorted (xCons (xFrz m) xNil)) σ st = .ok (.lst (sortD (l.map shT))) st := by
  have a := frz_ok h
  have hz : (l.map shT).length ≤ szL := by simp only [List.length_map, szL]; omega
  have e : lSorted st [.lst (l.map shT)] = some (sortD (l.map shT)) := by
    simp only [lSorted, dctOf, seqOf, lstOf, Option.bind_some, sortable_str hf, hz, and_self, if_true]
  simp only [xFrz, xBL, xCons, xNil, a, Out.bind_ok, h, e, ofOpt_some]
theorem mapF {l : List Tm} (G : Tm → D) (F : D → D) (h : ∀ t ∈ l, F t.d = G t) : (tms l).map F = l.map G := by
  simp only [tms, List.map_map]
  exact List.map_congr_left h
end
/-- a term back from what it is -/
def undT (x : D) : Tm := (dec 30 x 0).getD (.v 0)
theorem undT_d {t : Tm} (h : Aff t) : undT t.d = t := by
  unfold undT
  rw [dec_d 30 t 0 h.le h.cl]
  rfl
section
variable {hd : Cell} {S v5 v6 v7 v8 v9 v10 v11 v12 : Option D} {s : Nat} {rest : Sto}
theorem la9_ok (hs : Sz s) : la9 (xE S (some (.int (s : Nat))) (some (.loc 1)) (some (.lst (tms (dueT s)))) v5 v6 v7 v8 v9 v10 v11 v12) (hd :: .lst (tms (toldT s)) :: rest) = .nx (xE S (some (.int (s : Nat))) (some (.loc 1)) (some (.lst (tms (dueT s)))) v5 v6 v7 v8 v9 v10 v11 v12) (hd :: .lst (tms (toldT s)) :: rest) := by
  have h1 := len_ok hs
  have h2 := len_due hs
  have c1 := xComp_live (own := [7]) (g := gVar 7) (e := xB vRepr (xCons (xVar 7) xNil)) (σ := xE S (some (.int (s : Nat))) (some (.loc 1)) (some (.lst (tms (dueT s)))) v5 v6 v7 v8 v9 v10 v11 v12) (fun d => shT (undT d)) (it3 (hd := hd) (rest := rest) (tms (toldT s))) rfl (fun d hd => by
    obtain ⟨t, ht, rfl⟩ := List.mem_map.mp hd
    rw [undT_d (aff_ok hs t ht).1]
    exact ⟨_, rfl, repr_of (aff_ok hs t ht).1 rfl⟩) (by simp only [tms, List.length_map, szL]; omega)
  rw [mapF shT _ fun t ht => by rw [undT_d (aff_ok hs t ht).1]] at c1
  have hi : iAny (xVar 4) (xE S (some (.int (s : Nat))) (some (.loc 1)) (some (.lst (tms (dueT s)))) v5 v6 v7 v8 v9 v10 v11 v12) (hd :: .lst (tms (toldT s)) :: rest) = .ok ⟨tms (dueT s), none⟩ (hd :: .lst (tms (toldT s)) :: rest) := rfl
  have c2 := xComp_map (own := [7]) (g := gVar 7) (e := xB vRepr (xCons (xVar 7) xNil)) (fun d => shT (undT d)) hi (fun d hd => by
    obtain ⟨t, ht, rfl⟩ := List.mem_map.mp hd
    rw [undT_d (aff_due hs t ht).1]
    exact ⟨_, rfl, repr_of (aff_due hs t ht).1 rfl⟩) (by simp only [tms, List.length_map, szL]; omega)
  rw [mapF shT _ fun t ht => by rw [undT_d (aff_due hs t ht).1]] at c2
  have d1 := sorted_frz c1 (flat_ok hs) h1
  have d2 := sorted_frz c2 (fun t ht => flat_ok hs t ((perm_ok hs).mem_iff.mpr ht)) (by omega)
  rw [← sorted_one hs] at d2
  refine sIf_fn (tCmp d1 d2 (ne_self ?_))
  show flatL 59 _ = true
  refine flatL_all.mpr fun x hx => ?_
  have hx' := (sortD_perm _).mem_iff.mp hx
  obtain ⟨t, ht, rfl⟩ := List.mem_map.mp hx'
  have := flat_ok hs t ht
  unfold shT at this ⊢
  rw [str_flat 59 20]
  exact this
theorem la10_ok (hs : Sz s) : la10 (xE S (some (.int (s : Nat))) (some (.loc 1)) (some (.lst (tms (dueT s)))) v5 v6 v7 v8 v9 v10 v11 v12) (hd :: .lst (tms (toldT s)) :: rest) = .nx (xE S (some (.int (s : Nat))) (some (.loc 1)) (some (.lst (tms (dueT s)))) (some (.lst (rks (toldT s)))) v6 v7 v8 v9 v10 v11 v12) (hd :: .lst (tms (toldT s)) :: rest) := by
  have h1 := len_ok hs
  have c1 := xComp_live (own := [7]) (g := gVar 7) (e := xIf (tV (xOp vEq (xOp vIx (xVar 7) (xC (.int 0))) (xC (.str [102, 117, 110])))) (xC (.int 0)) (xCallP 1 (m__law_parts 30) (xCons (xOp vIx (xVar 7) (xC (.int 1))) xNil))) (σ := xE S (some (.int (s : Nat))) (some (.loc 1)) (some (.lst (tms (dueT s)))) v5 v6 v7 v8 v9 v10 v11 v12) (fun d => .int (rankT (undT d) : Nat)) (it3 (hd := hd) (rest := rest) (tms (toldT s))) rfl (fun d hd => by
    obtain ⟨t, ht, rfl⟩ := List.mem_map.mp hd
    obtain ⟨ha, hz⟩ := aff_ok hs t ht
    rw [undT_d ha]
    refine ⟨_, rfl, ?_⟩
    cases t with
    | v n => have := ha.cl; simp [Tm.cl] at this
    | l b => exact xIf_t (fun_l (t := b) (xVar 7) rfl) rfl
    | a p q =>
      simp only [Tm.sz] at hz
      exact xIf_f (fun_a (s := p) (t := q) (xVar 7) rfl) (callP (ds := [p.d]) rfl rfl (by simp [fxL, p.fx]) (lparts_ok 30 p (by omega)) rfl)) (by simp only [tms, List.length_map, szL]; omega)
  rw [mapF (fun t => .int (rankT t : Nat)) _ fun t ht => by rw [undT_d (aff_ok hs t ht).1]] at c1
  exact sAsg_var (frz_ok c1)
theorem la11_ok (hs : Sz s) : la11 (xE S (some (.int (s : Nat))) (some (.loc 1)) (some (.lst (tms (dueT s)))) (some (.lst (rks (toldT s)))) v6 v7 v8 v9 v10 v11 v12) (hd :: .lst (tms (toldT s)) :: rest) = .nx (xE S (some (.int (s : Nat))) (some (.loc 1)) (some (.lst (tms (dueT s)))) (some (.lst (rks (toldT s)))) v6 v7 v8 v9 v10 v11 v12) (hd :: .lst (tms (toldT s)) :: rest) := by
  have h1 := len_ok hs
  have hz : (rks (toldT s)).length ≤ szL := by simp only [rks, List.length_map, szL]; omega
  have q1 : ((rks (toldT s)).all fun x => x.flat 20) = true := List.all_eq_true.mpr fun x hx => by
    obtain ⟨t, ht, rfl⟩ := List.mem_map.mp hx
    simp only [D.flat]
  have q2 : ((rks (toldT s)).all fun x => (rks (toldT s)).all fun y => x.ord 20 y) = true := List.all_eq_true.mpr fun x hx => List.all_eq_true.mpr fun y hy => by
    obtain ⟨t, _, rfl⟩ := List.mem_map.mp hx
    obtain ⟨u, _, rfl⟩ := List.mem_map.mp hy
    simp only [D.ord]
  have q3 : (rks (toldT s)).all D.isIntD = true := List.all_eq_true.mpr fun x hx => by
    obtain ⟨t, _, rfl⟩ := List.mem_map.mp hx
    rfl
  have q : sortable (rks (toldT s)) = true := by simp only [sortable, q1, q2, q3, Bool.true_or, Bool.and_self]
  have e : lSorted (hd :: .lst (tms (toldT s)) :: rest) [.lst (rks (toldT s))] = some (rks (toldT s)) := by
    simp only [lSorted, dctOf, seqOf, lstOf, Option.bind_some, q, hz, and_self, if_true, rank_ok hs]
  refine sIf_fn (tCmp (x := .lst (rks (toldT s))) (y := .lst (rks (toldT s))) rfl ?_ (ne_self ?_))
  · simp only [xFrz, xBL, xCons, xNil, xVar, xE, List.getElem?_cons_succ, List.getElem?_cons_zero, Out.bind_ok, e, ofOpt_some]
  · show flatL 59 _ = true
    refine flatL_all.mpr fun x hx => ?_
    obtain ⟨t, _, rfl⟩ := List.mem_map.mp hx
    simp only [D.flat]
theorem la12_ok (hs : Sz s) : la12 (xE S (some (.int (s : Nat))) (some (.loc 1)) (some (.lst (tms (dueT s)))) v5 v6 v7 v8 v9 v10 v11 v12) (hd :: .lst (tms (toldT s)) :: rest) = .nx (xE S (some (.int (s : Nat))) (some (.loc 1)) (some (.lst (tms (dueT s)))) v5 v6 v7 v8 v9 v10 v11 v12) (hd :: .lst (tms (toldT s)) :: rest) := by
  have h1 := len_ok hs
  have c1 := xComp_live (own := [7]) (g := gVar 7) (e := xOp vIsB (xCallP 1 m_is_affine (xCons (xVar 7) xNil)) (xC (.bl true))) (σ := xE S (some (.int (s : Nat))) (some (.loc 1)) (some (.lst (tms (dueT s)))) v5 v6 v7 v8 v9 v10 v11 v12) (fun d => .bl true) (it3 (hd := hd) (rest := rest) (tms (toldT s))) rfl (fun d hd => by
    obtain ⟨t, ht, rfl⟩ := List.mem_map.mp hd
    obtain ⟨g1, g2, g3⟩ := gt_aff (aff_ok hs t ht).1
    refine ⟨_, rfl, xOp_ok (callP (ds := [t.d]) rfl rfl (by simp [fxL, t.fx]) (by rw [is_affine_ok g1 g2, g3]) rfl) rfl rfl⟩) (by simp only [tms, List.length_map, szL]; omega)
  have f := frz_ok c1
  have v : ∀ st, vAll st [.lst ((tms (toldT s)).map fun _ => D.bl true)] = some (.bl true) := fun st => by
    have := vAll_map (fun _ => true) (tms (toldT s)) st
    rw [this]
    simp
  exact sIf_fn (tNot_bl (tV_bl (xB_ok (xC1 f) (v _))))
end
end Mi
end
section
set_option linter.all false
set_option autoImplicit false
set_option maxRecDepth 100000
namespace Mi
def okC (c : Nat) : Bool := decide (c < 1114112)
theorem dg_code {n : Nat} (h : n < 100) : (dg n).all okC = true := List.all_eq_true.mpr fun c hc => by
  have := List.all_eq_true.mp (dg_fact h).1 c hc
  simp only [dgB, Bool.and_eq_true, decide_eq_true_eq] at this
  simp only [okC, decide_eq_true_eq]
  omega
theorem txt_code : ∀ (t : Tm) (k : Nat), t.bd = true → k + t.sz ≤ 100 → (t.txt k).all okC = true
  | .v n, k, h, _ => by
    simp only [Tm.bd, decide_eq_true_eq] at h
    simp only [Tm.txt, List.all_cons, dg_code h, Bool.and_true]
    decide
  | .l t, k, h, hk => by
    simp only [Tm.sz] at hk
    have h1 := txt_code t (k + 1) h (by omega)
    have h2 := dg_code (n := k) (by omega)
    simp only [Tm.txt, List.all_cons, List.all_append, h1, h2, Bool.and_true]
    decide
  | .a s t, k, h, hk => by
    simp only [Tm.sz] at hk
    simp only [Tm.bd, Bool.and_eq_true] at h
    have h1 := txt_code s k h.1 (by omega)
    have h2 := txt_code t k h.2 (by omega)
    have e1 : (if s.isL = true then 40 :: (s.txt k ++ [41]) else s.txt k).all okC = true := by
      split
      · simp only [List.all_cons, List.all_append, h1, List.all_nil, Bool.and_true]; decide
      · exact h1
    have e2 : (if t.isV = true then t.txt k else 40 :: (t.txt k ++ [41])).all okC = true := by
      split
      · exact h2
      · simp only [List.all_cons, List.all_append, h2, List.all_nil, Bool.and_true]; decide
    simp only [Tm.txt, List.all_cons, List.all_append, e1, e2, Bool.and_true, Bool.true_and]
    decide
theorem Aff.bd {t : Tm} (h : Aff t) : t.bd = true := t.cl_bd 0 h.cl (by have := h.le; omega)
theorem rpt_txt {t : Tm} (h : Aff t) : (D.str (t.txt 0)).rpt = true := by
  have h1 := txt_code t 0 h.bd (by have := h.le; omega)
  have h2 := txt_len t 0 h.bd (by have := h.le; omega)
  have h3 := h.le
  have h4 : (t.txt 0).all (fun c => decide (c < 1114112)) = true := h1
  simp only [D.rpt, h4, Bool.true_and, decide_eq_true_eq]
  omega
theorem topOf_d (st : Sto) (t : Tm) : topOf st t.d = t.d := by cases t <;> rfl
/-- the texts so far -/
def KOk (kvs : List (D × D)) : Prop := ∀ p ∈ kvs, ∃ t : Tm, Aff t ∧ p = (.str (t.txt 0), t.d)
theorem getK_mem : ∀ (kvs : List (D × D)) (k d : D), getK kvs k = some d → (k, d) ∈ kvs
  | [], k, d, h => by simp [getK] at h
  | (j, x) :: r, k, d, h => by
    simp only [getK] at h
    split at h
    · rename_i e
      subst e
      cases h
      exact List.mem_cons_self
    · exact List.mem_cons_of_mem _ (getK_mem r k d h)
theorem getK_none : ∀ (kvs : List (D × D)) (k : D), getK kvs k = none → kvs.any (fun p => decide (p.1 = k)) = false
  | [], k, _ => rfl
  | (j, x) :: r, k, h => by
    simp only [getK] at h
    split at h
    · cases h
    · rename_i e
      simp only [List.any_cons, e, decide_false, Bool.false_or]
      exact getK_none r k h
theorem setd_ok {kvs : List (D × D)} {t : Tm} {st : Sto} (h : KOk kvs) (ht : Aff t) (hl : kvs.length ≤ 200) : ∃ kvs', mSetd (.dct kvs) [.str (t.txt 0), t.d] st = some (t.d, .dct kvs') ∧ KOk kvs' ∧ kvs'.length ≤ kvs.length + 1 := by
  have k1 : (D.str (t.txt 0)).isKey0 = true := rfl
  have k2 : (kvs.all fun p => p.1.isKey0) = true := List.all_eq_true.mpr fun p hp => by
    obtain ⟨u, _, rfl⟩ := h p hp
    rfl
  have k3 : kvs.length < szL := by simp only [szL]; omega
  unfold mSetd
  simp only [k1, k2, k3, decide_true, Bool.and_self, if_true]
  cases e : getK kvs (.str (t.txt 0)) with
  | some d =>
    obtain ⟨u, hu, eu⟩ := h _ (getK_mem _ _ _ e)
    simp only [Prod.mk.injEq, D.str.injEq] at eu
    have := txt_inj ht.bd hu.bd eu.1
    subst this
    refine ⟨kvs, ?_, h, by omega⟩
    rw [eu.2]
  | none =>
    have hn := getK_none _ _ e
    refine ⟨kvs ++ [(.str (t.txt 0), t.d)], ?_, ?_, by simp⟩
    · simp only [putK, hn, Bool.false_eq_true, if_false]
    · intro p hp
      rcases List.mem_append.mp hp with hp | hp
      · exact h p hp
      · rw [List.mem_singleton.mp hp]
        exact ⟨t, ht, rfl⟩
section
variable {S v2 v4 v5 v9 v10 v11 v12 : Option D} {hd T : Cell}
theorem body14 {t : Tm} {kvs : List (D × D)} {v8 : Option D} (ht : Aff t) (h : KOk kvs) (hl : kvs.length ≤ 200) : ∃ kvs', la14B (xE S v2 (some (.loc 1)) v4 v5 (some (.loc 2)) (some t.d) v8 v9 v10 v11 v12) [hd, T, .dct kvs] = .nx (xE S v2 (some (.loc 1)) v4 v5 (some (.loc 2)) (some t.d) (some (.str (t.txt 0))) v9 v10 v11 v12) [hd, T, .dct kvs'] ∧ KOk kvs' ∧ kvs'.length ≤ kvs.length + 1 := by
  have hb := ht.bd
  have hz := ht.le
  have c1 : xCallP 2 (m__law_text 30) (xCons (xVar 7) (xCons (xC (.int 0)) xNil)) (xE S v2 (some (.loc 1)) v4 v5 (some (.loc 2)) (some t.d) v8 v9 v10 v11 v12) [hd, T, .dct kvs] = .ok (.str (t.txt 0)) [hd, T, .dct kvs] := callP (ds := [t.d, .int ((0 : Nat) : Int)]) rfl rfl (by simp [fxL, t.fx, D.fx]) (ltext_ok 30 t 0 hz hb (by omega)) rfl
  have c2 : xReprNeT (xCallP 1 m_affine_text (xCons (xVar 7) xNil)) (xVar 8) (xE S v2 (some (.loc 1)) v4 v5 (some (.loc 2)) (some t.d) (some (.str (t.txt 0))) v9 v10 v11 v12) [hd, T, .dct kvs] = .ok (.bl false) [hd, T, .dct kvs] := by
    have a := text_call (σ := xE S v2 (some (.loc 1)) v4 v5 (some (.loc 2)) (some t.d) (some (.str (t.txt 0))) v9 v10 v11 v12) (st := [hd, T, .dct kvs]) (ma := xCons (xVar 7) xNil) ht rfl
    have b : xVar 8 (xE S v2 (some (.loc 1)) v4 v5 (some (.loc 2)) (some t.d) (some (.str (t.txt 0))) v9 v10 v11 v12) [hd, T, .dct kvs] = .ok (.str (t.txt 0)) [hd, T, .dct kvs] := rfl
    have e : (D.str (t.txt 0)).same (.str (t.txt 0)) = true := (D.same_iff _ _).mpr rfl
    simp only [xReprNeT, a, Out.bind_ok, rpt_txt ht, Bool.or_true, if_true, b, e]
  obtain ⟨kvs', d1, d2, d3⟩ := setd_ok (st := [hd, T, .dct kvs]) h ht hl
  have c3 : xM Cell.isDct mSetd (xVar 6) (xCons (xVar 8) (xCons (xVar 7) xNil)) (xE S v2 (some (.loc 1)) v4 v5 (some (.loc 2)) (some t.d) (some (.str (t.txt 0))) v9 v10 v11 v12) [hd, T, .dct kvs] = .ok t.d [hd, T, .dct kvs'] := by
    have a : xVar 6 (xE S v2 (some (.loc 1)) v4 v5 (some (.loc 2)) (some t.d) (some (.str (t.txt 0))) v9 v10 v11 v12) [hd, T, .dct kvs] = .ok (.loc 2) [hd, T, .dct kvs] := rfl
    have b : xCons (xVar 8) (xCons (xVar 7) xNil) (xE S v2 (some (.loc 1)) v4 v5 (some (.loc 2)) (some t.d) (some (.str (t.txt 0))) v9 v10 v11 v12) [hd, T, .dct kvs] = .ok [.str (t.txt 0), t.d] [hd, T, .dct kvs] := rfl
    have k : Cell.isDct (.dct kvs) = true := rfl
    have g : ([hd, T, .dct kvs] : Sto)[2]? = some (.dct kvs) := rfl
    simp only [xM, a, Out.bind_ok, g, k, if_true, b, d1]
    rfl
  refine ⟨kvs', ?_, d2, d3⟩
  have f1 : la14B1 (xE S v2 (some (.loc 1)) v4 v5 (some (.loc 2)) (some t.d) v8 v9 v10 v11 v12) [hd, T, .dct kvs] = .nx (xE S v2 (some (.loc 1)) v4 v5 (some (.loc 2)) (some t.d) (some (.str (t.txt 0))) v9 v10 v11 v12) [hd, T, .dct kvs] := sAsg_var c1
  have f2 : la14B2 (xE S v2 (some (.loc 1)) v4 v5 (some (.loc 2)) (some t.d) (some (.str (t.txt 0))) v9 v10 v11 v12) [hd, T, .dct kvs] = .nx (xE S v2 (some (.loc 1)) v4 v5 (some (.loc 2)) (some t.d) (some (.str (t.txt 0))) v9 v10 v11 v12) [hd, T, .dct kvs] := sIf_fn (tV_bl c2)
  have f3 : la14B3 (xE S v2 (some (.loc 1)) v4 v5 (some (.loc 2)) (some t.d) (some (.str (t.txt 0))) v9 v10 v11 v12) [hd, T, .dct kvs] = .nx (xE S v2 (some (.loc 1)) v4 v5 (some (.loc 2)) (some t.d) (some (.str (t.txt 0))) v9 v10 v11 v12) [hd, T, .dct kvs'] := by
    refine sIf_fn ?_
    have o : xOp vNe (xM Cell.isDct mSetd (xVar 6) (xCons (xVar 8) (xCons (xVar 7) xNil))) (xVar 7) (xE S v2 (some (.loc 1)) v4 v5 (some (.loc 2)) (some t.d) (some (.str (t.txt 0))) v9 v10 v11 v12) [hd, T, .dct kvs] = .ok (.bl false) [hd, T, .dct kvs'] := xOp_ok c3 rfl (ne_self (by rw [topOf_d]; exact t.flat 60 (by omega)))
    simp only [tV, o, Out.bind_ok]
    rfl
  unfold la14B
  rw [seq_eq f1, seq_eq f2, f3]
theorem loop14 (it : List D) : ∀ (ts : List Tm) (kvs : List (D × D)) (v7 v8 : Option D), (∀ t ∈ ts, Aff t) → KOk kvs → kvs.length + ts.length ≤ 200 →
    ∃ kvs' v7' v8', forL ⟨it, none⟩ (gVar 7) la14B (tms ts) (xE S v2 (some (.loc 1)) v4 v5 (some (.loc 2)) v7 v8 v9 v10 v11 v12) [hd, T, .dct kvs] = .nx (xE S v2 (some (.loc 1)) v4 v5 (some (.loc 2)) v7' v8' v9 v10 v11 v12) [hd, T, .dct kvs'] ∧ KOk kvs'
  | [], kvs, v7, v8, _, h, _ => ⟨kvs, v7, v8, rfl, h⟩
  | t :: ts, kvs, v7, v8, ha, h, hl => by
    simp only [List.length_cons] at hl
    obtain ⟨kvs1, e1, h1, l1⟩ := body14 (S := S) (v2 := v2) (v4 := v4) (v5 := v5) (v9 := v9) (v10 := v10) (v11 := v11) (v12 := v12) (hd := hd) (T := T) (v8 := v8) (ha t List.mem_cons_self) h (by omega)
    obtain ⟨kvs', v7', v8', e2, h2⟩ := loop14 it ts kvs1 (some t.d) (some (.str (t.txt 0))) (fun u hu => ha u (List.mem_cons_of_mem _ hu)) h1 (by omega)
    have ok : ∀ st, (It.mk it none).okAt st = true := fun _ => rfl
    have g : gVar 7 t.d (xE S v2 (some (.loc 1)) v4 v5 (some (.loc 2)) v7 v8 v9 v10 v11 v12) [hd, T, .dct kvs] = some (xE S v2 (some (.loc 1)) v4 v5 (some (.loc 2)) (some t.d) v8 v9 v10 v11 v12, [hd, T, .dct kvs]) := rfl
    refine ⟨kvs', v7', v8', ?_, h2⟩
    show forL ⟨it, none⟩ (gVar 7) la14B (t.d :: tms ts) _ _ = _
    simp only [forL, ok, if_true, g, e1]
    exact e2
/-- terms drawn -/
theorem drawn_all {rest : Sto} (hr : stFx rest) {σ0 : Env} (it : List D) (h1 : σ0[1]? = some (some (.loc 0))) (hl : σ0.length = 13) : ∀ (l : List D) (acc : List Tm) (hd : Cell) (σ : Env), HandOk hd → acc.length + l.length ≤ 100 → (∃ y, σ = σ0.set 12 y) → (∀ t ∈ acc, Aff t) →
    ∃ ts hd', compL ⟨it, none⟩ (gVar 12) tTrue (xCall 2 m__law_closed (xCons (xVar 1) (xCons (xC (.int 10)) xNil))) σ l (hd :: rest) (tms acc) = .ok (tms ts) (hd' :: rest) ∧ (∀ t ∈ ts, Aff t) ∧ HandOk hd' ∧ ts.length = acc.length + l.length
  | [], acc, hd, σ, H, _, _, ha => ⟨acc, hd, rfl, ha, H, rfl⟩
  | d :: l, acc, hd, σ, H, hn, ⟨y, hσ⟩, ha => by
    subst hσ
    simp only [List.length_cons] at hn
    obtain ⟨t, hd1, e, H1, ht, _⟩ := closed_ok H hr
    have g : gVar 12 d (σ0.set 12 y) (hd :: rest) = some (σ0.set 12 (some d), hd :: rest) := by
      simp only [gVar, setV, List.set_set]
    have v1 : (σ0.set 12 (some d))[1]? = some (some (.loc 0)) := by
      rw [List.getElem?_set_ne (by decide)]
      exact h1
    have c : xCall 2 m__law_closed (xCons (xVar 1) (xCons (xC (.int 10)) xNil)) (σ0.set 12 (some d)) (hd :: rest) = .ok t.d (hd1 :: rest) := xCall_ok (st1 := hd :: rest) (gb := []) (ds := [.loc 0, .int 10]) (by simp only [xCons, xNil, xVar, v1, Out.bind_ok]; rfl) rfl (by rw [List.append_nil]; exact e) rfl t.fx (stFx_cons (hand_fx H1) hr)
    obtain ⟨ts, hd', e2, h2, H2, h3⟩ := drawn_all hr it h1 hl l (acc ++ [t]) hd1 (σ0.set 12 y) H1 (by simp; omega) ⟨_, rfl⟩ (fun u hu => by
      rcases List.mem_append.mp hu with hu | hu
      · exact ha u hu
      · rw [List.mem_singleton.mp hu]; exact ht)
    have ok : ∀ st, (It.mk it none).okAt st = true := fun _ => rfl
    have tt : ∀ σ st, tTrue σ st = .ok true st := fun _ _ => rfl
    have hz : (tms acc).length < szL := by simp only [tms, List.length_map, szL]; omega
    refine ⟨ts, hd', ?_, h2, H2, by rw [h3]; simp; omega⟩
    simp only [compL, ok, if_true, g, tt, c, hz]
    have e3 : tms acc ++ [t.d] = tms (acc ++ [t]) := by simp [tms]
    rw [e3]
    exact e2
end
end Mi
end
section
set_option linter.all false
set_option autoImplicit false
set_option maxRecDepth 100000
namespace Mi
def nums : List D := [.int 0, .int 8, .int (-1), .bl true, .non, .str [51], .tup [.int 3], .lst [.int 3], .dct [], .int 10000000000000000000]
def things : List D := [.int 0, .non, .tup [.str FUN, .tup [.str USE, .int 0, .int 0]], .tup [.str FUN, .int 1], .lst [.str FUN, .int 0], .tup [.str FUN, .bl true], .tup [], .dct [], .str [120, 48]]
theorem nums_bad {x : D} (h : x ∈ nums) : m_all_terms [x] [] = .exc ⟨1, []⟩ [] ∧ x.fx = true := by
  simp only [nums, List.mem_cons, List.not_mem_nil, or_false] at h
  rcases h with rfl | rfl | rfl | rfl | rfl | rfl | rfl | rfl | rfl | rfl <;> exact ⟨rfl, rfl⟩
theorem things_bad {x : D} (h : x ∈ things) : m_affine_text [x] [] = .exc ⟨2, []⟩ [] ∧ x.fx = true := by
  simp only [things, List.mem_cons, List.not_mem_nil, or_false] at h
  rcases h with rfl | rfl | rfl | rfl | rfl | rfl | rfl | rfl | rfl <;> exact ⟨rfl, rfl⟩
theorem word_exc {th : Thk} (c : Nat) (w : List Nat) (h : th [] = .exc ⟨c, []⟩ []) (hc : c = 1 ∧ w = [110, 117, 109, 98, 101, 114] ∨ c = 2 ∧ w = [97, 102, 102, 105, 110, 101]) : m__law_word th [] = .ok (.str w) [] := by
  have e1 : ∀ σ, sDrop (xActL th) σ [] = .exc ⟨c, []⟩ σ [] := fun σ => by simp only [sDrop, xActL, h]
  have e0 : ∀ (b : Exn → XS) (r : D) (σ1 : Env), b ⟨c, []⟩ [none, some (.str [108, 101, 116]), none, none] [] = .nx σ1 [] → σ1.set 2 none = [none, some r, none, σ1[3]?.join] → sSeq (sTry [1, 2] (fun c => ([1, 2] : List Nat).contains c) 2 (sDrop (xActL th)) b) (sRet (xVar 1)) [none, some (.str [108, 101, 116]), none, none] [] = .rt r [] := fun b r σ1 hb hσ => by
    have t : sTry [1, 2] (fun c => ([1, 2] : List Nat).contains c) 2 (sDrop (xActL th)) b [none, some (.str [108, 101, 116]), none, none] [] = .nx [none, some r, none, σ1[3]?.join] [] := by
      unfold sTry
      rw [e1]
      have q1 : ([1, 2] : List Nat).contains c = true := by rcases hc with ⟨rfl, _⟩ | ⟨rfl, _⟩ <;> rfl
      simp only [q1, List.length_cons, List.length_nil, Nat.reduceAdd, Nat.reduceLT, decide_true, Bool.and_self, if_true, List.set_cons_zero, List.set_cons_succ, hb, hσ]
    rw [sSeq_nx t]
    rfl
  show (match sSeq _ _ [none, none, none, none] [] with
    | .nx _ st' => Out.ok D.non st'
    | .rt d st' => .ok d st'
    | .exc e _ st' => .exc e st'
    | _ => .bad) = _
  have a : ∀ (B : XS) (r : OutS), B [none, some (.str [108, 101, 116]), none, none] [] = r → sSeq (sAsg (xC (.str [108, 101, 116])) (gVar 1)) B [none, none, none, none] [] = r := fun B r hB => asg_nx (st1 := []) (d := .str [108, 101, 116]) rfl hB
  rcases hc with ⟨rfl, rfl⟩ | ⟨rfl, rfl⟩
  · rw [a _ _ (e0 _ (.str [110, 117, 109, 98, 101, 114]) _ rfl rfl)]
  · rw [a _ _ (e0 _ (.str [97, 102, 102, 105, 110, 101]) _ rfl rfl)]
section
variable {np : Nat} {g : Fn} {ma : XA} {σ : Env} {st s : Sto} {ds : List D} {e : Exn}
end
variable {S v2 v3 v4 v5 v6 v7 v8 v9 v10 v11 v12 : Option D} {hd T : Cell} {st : Sto}
theorem lam9 {x : D} (hx : x ∈ nums) : xLamP m__law_word [9] (xCallP 1 m_all_terms (xCons (xVar 9) xNil)) (xE S v2 v3 v4 v5 v6 v7 v8 (some x) v10 v11 v12) st = .ok (.str [110, 117, 109, 98, 101, 114]) st := by
  obtain ⟨hb, hf⟩ := nums_bad hx
  have hm : maskE [9] 0 (xE S v2 v3 v4 v5 v6 v7 v8 (some x) v10 v11 v12) = [none, none, none, none, none, none, none, none, none, some x, none, none, none] := rfl
  have hp : pureE [none, none, none, none, none, none, none, none, none, some x, none, none, none] = true := by simp [pureE, fx_pure x hf]
  have th : xCallP 1 m_all_terms (xCons (xVar 9) xNil) [none, none, none, none, none, none, none, none, none, some x, none, none, none] [] = .exc ⟨1, []⟩ [] := callX (ds := [x]) rfl rfl (by simp [fxL, hf]) hb rfl
  unfold xLamP
  rw [hm, if_pos hp]
  exact runP_ok (word_exc 1 _ th (.inl ⟨rfl, rfl⟩)) rfl
theorem lam10 {x : D} (hx : x ∈ things) : xLamP m__law_word [10] (xCallP 1 m_affine_text (xCons (xVar 10) xNil)) (xE S v2 v3 v4 v5 v6 v7 v8 v9 (some x) v11 v12) st = .ok (.str [97, 102, 102, 105, 110, 101]) st := by
  obtain ⟨hb, hf⟩ := things_bad hx
  have hm : maskE [10] 0 (xE S v2 v3 v4 v5 v6 v7 v8 v9 (some x) v11 v12) = [none, none, none, none, none, none, none, none, none, none, some x, none, none] := rfl
  have hp : pureE [none, none, none, none, none, none, none, none, none, none, some x, none, none] = true := by simp [pureE, fx_pure x hf]
  have th : xCallP 1 m_affine_text (xCons (xVar 10) xNil) [none, none, none, none, none, none, none, none, none, none, some x, none, none] [] = .exc ⟨2, []⟩ [] := callX (ds := [x]) rfl rfl (by simp [fxL, hf]) hb rfl
  unfold xLamP
  rw [hm, if_pos hp]
  exact runP_ok (word_exc 2 _ th (.inr ⟨rfl, rfl⟩)) rfl
theorem la19_ok {x y : D} (hx : x ∈ nums) (hy : y ∈ things) : la19 (xE S v2 v3 v4 v5 v6 v7 v8 (some x) (some y) v11 v12) st = .rt (.bl true) st := by
  have a : xFrz (xLst (xCons (xLamP m__law_word [9] (xCallP 1 m_all_terms (xCons (xVar 9) xNil))) (xCons (xLamP m__law_word [10] (xCallP 1 m_affine_text (xCons (xVar 10) xNil))) xNil))) (xE S v2 v3 v4 v5 v6 v7 v8 (some x) (some y) v11 v12) st = .ok (.lst [.str [110, 117, 109, 98, 101, 114], .str [97, 102, 102, 105, 110, 101]]) st := by
    simp only [xFrz, xLst, xCons, xNil, lam9 hx, lam10 hy, Out.bind_ok, List.length_cons, List.length_nil, Nat.reduceAdd]
    rfl
  exact sRet_ok (xOp_ok a rfl rfl)
theorem fxK_ok : ∀ kvs : List (D × D), KOk kvs → fxK kvs = true
  | [], _ => rfl
  | (k, v) :: r, h => by
    obtain ⟨t, ht, e⟩ := h _ List.mem_cons_self
    simp only [Prod.mk.injEq] at e
    obtain ⟨rfl, rfl⟩ := e
    have := fxK_ok r fun p hp => h p (List.mem_cons_of_mem _ hp)
    simp only [fxK, t.fx, this, Bool.and_true, Bool.true_and]
    rfl
theorem la14_ok {hd : Cell} {S : Option D} {s : Nat} {v5 : Option D} (hs : Sz s) (H : HandOk hd) : ∃ kvs v7 v8 hd', la14 (xE S (some (.int (s : Nat))) (some (.loc 1)) (some (.lst (tms (dueT s)))) v5 (some (.loc 2)) none none none none none none) [hd, .lst (tms (toldT s)), .dct []] = .nx (xE S (some (.int (s : Nat))) (some (.loc 1)) (some (.lst (tms (dueT s)))) v5 (some (.loc 2)) v7 v8 none none none none) [hd', .lst (tms (toldT s)), .dct kvs] ∧ KOk kvs ∧ HandOk hd' := by
  have h1 := len_ok hs
  have hr : stFx [.lst (tms (toldT s)), .dct []] := stFx_cons (tms_fx _) (stFx_cons rfl stFx_nil)
  obtain ⟨ts, hd', e, ha, H', hn⟩ := drawn_all hr (σ0 := xE S (some (.int (s : Nat))) (some (.loc 1)) (some (.lst (tms (dueT s)))) v5 (some (.loc 2)) none none none none none none) (rng 0 5) rfl rfl (rng 0 5) [] hd (xE S (some (.int (s : Nat))) (some (.loc 1)) (some (.lst (tms (dueT s)))) v5 (some (.loc 2)) none none none none none none) H (by decide) ⟨none, rfl⟩ (fun t ht => by cases ht)
  have c : xFrz (xComp [12] (iRange1 (xCons (xC (.int 5)) xNil)) (gVar 12) tTrue (xCall 2 m__law_closed (xCons (xVar 1) (xCons (xC (.int 10)) xNil)))) (xE S (some (.int (s : Nat))) (some (.loc 1)) (some (.lst (tms (dueT s)))) v5 (some (.loc 2)) none none none none none none) [hd, .lst (tms (toldT s)), .dct []] = .ok (.lst (tms ts)) [hd', .lst (tms (toldT s)), .dct []] := by
    refine frz_ok ?_
    have hi : iRange1 (xCons (xC (.int 5)) xNil) (xE S (some (.int (s : Nat))) (some (.loc 1)) (some (.lst (tms (dueT s)))) v5 (some (.loc 2)) none none none none none none) [hd, .lst (tms (toldT s)), .dct []] = .ok ⟨rng 0 5, none⟩ [hd, .lst (tms (toldT s)), .dct []] := rfl
    unfold xComp
    rw [hi]
    exact e
  have hn' : ts.length = 5 := hn
  have cat : xFrz (xOpL lCat (xVar 3) (xFrz (xComp [12] (iRange1 (xCons (xC (.int 5)) xNil)) (gVar 12) tTrue (xCall 2 m__law_closed (xCons (xVar 1) (xCons (xC (.int 10)) xNil)))))) (xE S (some (.int (s : Nat))) (some (.loc 1)) (some (.lst (tms (dueT s)))) v5 (some (.loc 2)) none none none none none none) [hd, .lst (tms (toldT s)), .dct []] = .ok (.lst (tms (toldT s ++ ts))) [hd', .lst (tms (toldT s)), .dct []] := by
    refine frz_ok ?_
    have v : xVar 3 (xE S (some (.int (s : Nat))) (some (.loc 1)) (some (.lst (tms (dueT s)))) v5 (some (.loc 2)) none none none none none none) [hd, .lst (tms (toldT s)), .dct []] = .ok (.loc 1) [hd, .lst (tms (toldT s)), .dct []] := rfl
    have l : lCat [hd', .lst (tms (toldT s)), .dct []] (.loc 1) (.lst (tms ts)) = some (tms (toldT s ++ ts)) := by
      have z : (tms (toldT s)).length + (tms ts).length ≤ szL := by simp only [tms, List.length_map, szL]; omega
      have q1 : lstOf [hd', .lst (tms (toldT s)), .dct []] (.loc 1) = some (tms (toldT s)) := rfl
      have q2 : lstOf [hd', .lst (tms (toldT s)), .dct []] (.lst (tms ts)) = some (tms ts) := rfl
      simp only [lCat, q1, q2, z, if_true]
      simp [tms]
    simp only [xOpL, v, Out.bind_ok, c, l, ofOpt_some]
  have it : iAny (xFrz (xOpL lCat (xVar 3) (xFrz (xComp [12] (iRange1 (xCons (xC (.int 5)) xNil)) (gVar 12) tTrue (xCall 2 m__law_closed (xCons (xVar 1) (xCons (xC (.int 10)) xNil))))))) (xE S (some (.int (s : Nat))) (some (.loc 1)) (some (.lst (tms (dueT s)))) v5 (some (.loc 2)) none none none none none none) [hd, .lst (tms (toldT s)), .dct []] = .ok ⟨tms (toldT s ++ ts), none⟩ [hd', .lst (tms (toldT s)), .dct []] := by
    simp only [iAny, cat, Out.bind_ok]
    rfl
  obtain ⟨kvs', v7', v8', e2, h2⟩ := loop14 (S := S) (v2 := some (.int (s : Nat))) (v4 := some (.lst (tms (dueT s)))) (v5 := v5) (v9 := none) (v10 := none) (v11 := none) (v12 := none) (hd := hd') (T := .lst (tms (toldT s))) (tms (toldT s ++ ts)) (toldT s ++ ts) [] none none (fun t ht => by
    rcases List.mem_append.mp ht with ht | ht
    · exact (aff_ok hs t ht).1
    · exact ha t ht) (fun p hp => by cases hp) (by simp only [List.length_append, List.length_nil]; omega)
  refine ⟨kvs', v7', v8', hd', ?_, h2, H'⟩
  unfold la14
  rw [sFor_at it]
  exact e2
theorem due_all (ns : List Int) : ∃ st, m_law [.scr (ns.map .int)] [] = .ok (.bl true) st := by
  obtain ⟨hd0, hH, H0⟩ := hand_ok ns
  rw [x_la]
  suffices hh : ∀ S : D, m__law_hand [S] [] = .ok (.loc 0) [hd0] → ∃ st, mkDef 1 13 (sSeq la1 (sSeq la2 (sSeq la3 (sSeq la4 (sSeq la5 (sSeq la6 (sSeq la7 (sSeq la8 (sSeq la9 (sSeq la10 (sSeq la11 (sSeq la12 (sSeq la13 (sSeq la14 (sSeq la15 (sSeq la16 (sSeq la17 (sSeq la18 la19)))))))))))))))))) [S] [] = .ok (.bl true) st from hh _ hH
  intro S hH
  have c0 : xCall 1 m__law_hand (xCons (xVar 0) xNil) [some S, none, none, none, none, none, none, none, none, none, none, none, none] [] = .ok (.loc 0) [hd0] := by
    have e0 : xCons (xVar 0) xNil [some S, none, none, none, none, none, none, none, none, none, none, none, none] [] = .ok [S] [] := rfl
    simp only [xCall, e0, Out.bind_ok, List.length_cons, List.length_nil, Nat.reduceAdd, if_true, hH, trunc, D.under, Nat.lt_irrefl, decide_false, Bool.false_and, Bool.false_eq_true, if_false]
  have e1 : la1 [some S, none, none, none, none, none, none, none, none, none, none, none, none] [] = .nx (xE (some S) none none none none none none none none none none none) [hd0] := sAsg_var c0
  obtain ⟨s, hd1, hs, H1, e6⟩ := la6_ok (S := some S) H0
  obtain ⟨kvs, v7, v8, hd2, e14, hk, H2⟩ := la14_ok (S := some S) (v5 := some (.lst (rks (toldT s)))) hs H1
  have h1 := len_ok hs
  have e13 : la13 (xE (some S) (some (.int (s : Nat))) (some (.loc 1)) (some (.lst (tms (dueT s)))) (some (.lst (rks (toldT s)))) none none none none none none none) [hd1, .lst (tms (toldT s))] = .nx (xE (some S) (some (.int (s : Nat))) (some (.loc 1)) (some (.lst (tms (dueT s)))) (some (.lst (rks (toldT s)))) (some (.loc 2)) none none none none none none) [hd1, .lst (tms (toldT s)), .dct []] := rfl
  have e15 : la15 (xE (some S) (some (.int (s : Nat))) (some (.loc 1)) (some (.lst (tms (dueT s)))) (some (.lst (rks (toldT s)))) (some (.loc 2)) v7 v8 none none none none) [hd2, .lst (tms (toldT s)), .dct kvs] = .nx (xE (some S) (some (.int (s : Nat))) (some (.loc 1)) (some (.lst (tms (dueT s)))) (some (.lst (rks (toldT s)))) (some (.loc 2)) v7 v8 none none none none) [hd2, .lst (tms (toldT s) ++ [.non]), .dct kvs] := by
    have a : mAppend (.lst (tms (toldT s))) [.non] [hd2, .lst (tms (toldT s)), .dct kvs] = some (.non, .lst (tms (toldT s) ++ [.non])) := by
      have z : (tms (toldT s)).length < szL := by simp only [tms, List.length_map, szL]; omega
      simp only [mAppend, z, if_true]
    have v : xVar 3 (xE (some S) (some (.int (s : Nat))) (some (.loc 1)) (some (.lst (tms (dueT s)))) (some (.lst (rks (toldT s)))) (some (.loc 2)) v7 v8 none none none none) [hd2, .lst (tms (toldT s)), .dct kvs] = .ok (.loc 1) [hd2, .lst (tms (toldT s)), .dct kvs] := rfl
    have g : ([hd2, .lst (tms (toldT s)), .dct kvs] : Sto)[1]? = some (.lst (tms (toldT s))) := rfl
    have k : Cell.isLst (.lst (tms (toldT s))) = true := rfl
    unfold la15
    simp only [sDrop, xM, v, Out.bind_ok, g, k, if_true, xCons, xNil, xC, a]
    rfl
  have e16 : la16 (xE (some S) (some (.int (s : Nat))) (some (.loc 1)) (some (.lst (tms (dueT s)))) (some (.lst (rks (toldT s)))) (some (.loc 2)) v7 v8 none none none none) [hd2, .lst (tms (toldT s) ++ [.non]), .dct kvs] = .nx (xE (some S) (some (.int (s : Nat))) (some (.loc 1)) (some (.lst (tms (dueT s)))) (some (.lst (rks (toldT s)))) (some (.loc 2)) v7 v8 none none none none) [hd2, .lst (tms (toldT s) ++ [.non]), .dct kvs] := by
    have a := all_call (σ := xE (some S) (some (.int (s : Nat))) (some (.loc 1)) (some (.lst (tms (dueT s)))) (some (.lst (rks (toldT s)))) (some (.loc 2)) v7 v8 none none none none) (st := [hd2, .lst (tms (toldT s) ++ [.non]), .dct kvs]) (ma := xCons (xVar 2) xNil) hs rfl
    refine sIf_fn (tCmp (x := .int (tms (toldT s)).length) (y := .int (tms (toldT s)).length) (xB_ok (xC1 a) rfl) (xB_ok (xC1 rfl) ?_) (ne_self rfl))
    show some (D.int ((tms (dueT s)).length : Nat)) = _
    have := len_due hs
    simp only [tms, List.length_map, this]
  have hr : stFx [.lst (tms (toldT s) ++ [.non]), .dct kvs] := stFx_cons (by
    show fxL (tms (toldT s) ++ [.non]) = true
    refine fxL_all.mpr fun d hd => ?_
    rcases List.mem_append.mp hd with hd | hd
    · exact fxL_all.mp (tms_fx _) d hd
    · rw [List.mem_singleton.mp hd]; rfl) (stFx_cons (fxK_ok kvs hk) stFx_nil)
  obtain ⟨x, hd3, c17, hx, H3⟩ := some1 (σ := xE (some S) (some (.int (s : Nat))) (some (.loc 1)) (some (.lst (tms (dueT s)))) (some (.lst (rks (toldT s)))) (some (.loc 2)) v7 v8 none none none none) (mb := xFrz (xLst (xCons (xC (.int 0)) (xCons (xC (.int 8)) (xCons (xUn vNeg (xC (.int 1))) (xCons (xC (.bl true)) (xCons (xC .non) (xCons (xC (.str [51])) (xCons (xTup (xCons (xC (.int 3)) xNil)) (xCons (xFrz (xLst (xCons (xC (.int 3)) xNil))) (xCons (xFrzD xDNil) (xCons (xOp vPow (xC (.int 10)) (xC (.int 19))) xNil)))))))))))) (xs := nums) H2 hr rfl rfl (by simp [nums]) (by decide) rfl
  obtain ⟨y, hd4, c18, hy, H4⟩ := some1 (σ := xE (some S) (some (.int (s : Nat))) (some (.loc 1)) (some (.lst (tms (dueT s)))) (some (.lst (rks (toldT s)))) (some (.loc 2)) v7 v8 (some x) none none none) (mb := xFrz (xLst (xCons (xC (.int 0)) (xCons (xC .non) (xCons (xTup (xCons (xC (.str [102, 117, 110])) (xCons (xTup (xCons (xC (.str [117, 115, 101])) (xCons (xC (.int 0)) (xCons (xC (.int 0)) xNil)))) xNil))) (xCons (xTup (xCons (xC (.str [102, 117, 110])) (xCons (xC (.int 1)) xNil))) (xCons (xFrz (xLst (xCons (xC (.str [102, 117, 110])) (xCons (xC (.int 0)) xNil)))) (xCons (xTup (xCons (xC (.str [102, 117, 110])) (xCons (xC (.bl true)) xNil))) (xCons (xTup xNil) (xCons (xFrzD xDNil) (xCons (xC (.str [120, 48])) xNil))))))))))) (xs := things) H3 hr rfl rfl (by simp [things]) (by decide) rfl
  refine ⟨[hd4, .lst (tms (toldT s) ++ [.non]), .dct kvs], mkDef_rt rfl ?_⟩
  show sSeq la1 _ [some S, none, none, none, none, none, none, none, none, none, none, none, none] [] = _
  rw [seq_eq e1, seq_eq (la2_ok _ _), seq_eq (la3_ok _ _), seq_eq (la4_ok _ _), seq_eq (la5_ok _ _), seq_eq e6, seq_eq (la7_ok hs), seq_eq (la8_ok hs), seq_eq (la9_ok hs), seq_eq (la10_ok hs), seq_eq (la11_ok hs), seq_eq (la12_ok hs), seq_eq e13, seq_eq e14, seq_eq e15, seq_eq e16]
  unfold la17
  rw [asg_eq c17]
  show sSeq la18 _ (xE (some S) (some (.int (s : Nat))) (some (.loc 1)) (some (.lst (tms (dueT s)))) (some (.lst (rks (toldT s)))) (some (.loc 2)) v7 v8 (some x) none none none) _ = _
  unfold la18
  rw [asg_eq c18]
  show la19 (xE (some S) (some (.int (s : Nat))) (some (.loc 1)) (some (.lst (tms (dueT s)))) (some (.lst (rks (toldT s)))) (some (.loc 2)) v7 v8 (some x) (some y) none none) _ = _
  exact la19_ok hx hy
end Mi
end
theorem PySem.Challenge.cw_pairhouses_k52_whole_all_terms_and_their_holds : PySem.Challenge.rw_pairhouses_k52_whole_all_terms_and_their.Holds := by
  exact law_holds fun ns _ => Mi.due_all ns
